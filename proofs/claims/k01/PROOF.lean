import PyProof.Rows.All
import Wide.All
import OpenK.AllK
import Wide.FinOn
import PyProof.P3Statements
import PyProof.ReprReads
import KE.DataEq
import HandS.ForMost
import HandS.TupAny
import HandS.TupMul
import HandS.Wide
import HandS.SortInts
import HandS.IsInst
import HandS.Conv
import HandS.Zip
import PyProof.ReprLen
import PyProof.CallFns
import HandS.ForExc
import PySem.Challenge.RW_classtab_k01_numbers_by_kind
set_option Elab.async false
set_option linter.all false
section MPy
set_option linter.all false
/-! MPy: a small language that stands beside the given syntax: values without a heap, a store of cells, an evaluator. -/
namespace MP
open PySem

abbrev LIM : Nat := 16777216

/-- a value: plain data; a cell; a list or dict just made, that nothing holds -/
inductive D where
  | dat (d : PyData)
  | ref (i : Nat)
  | newL (xs : List PyData)
  | newD (t : Bool) (kvs : List (PyData × PyData))

inductive Cell where
  | lst (xs : List PyData)
  | dct (t : Bool) (kvs : List (PyData × PyData))
  | dead

abbrev Store := List Cell
abbrev Env := List (Option D)

structure Exc where
  cls : Nat
  fs : List (Str × PyData)

inductive Res (α : Type) where
  | ok (a : α) (st : Store)
  | exc (x : Exc) (st : Store)
  | no

def M (α : Type) := Store → Res α
@[reducible] def M.ret {α : Type} (a : α) : M α := fun st => .ok a st
@[reducible] def M.bnd {α β : Type} (m : M α) (k : α → M β) : M β := fun st => match m st with
  | .ok a st' => k a st'
  | .exc x st' => .exc x st'
  | .no => .no
instance : Monad M where
  pure := M.ret
  bind := M.bnd
def fail {α : Type} : M α := fun _ => .no
def ofO {α : Type} : Option α → M α
  | some a => pure a
  | none => fail
/-- no exception is let out -/
def noX {α : Type} (m : M α) : M α := fun st => match m st with
  | .exc _ _ => .no
  | r => r
def guardB (b : Bool) : M Unit := if b then pure () else fail

/-! ### data -/
mutual
/-- no dict within, at most n deep -/
def shal : Nat → PyData → Bool
  | _, .none => true
  | _, .bool _ => true
  | _, .int _ => true
  | _, .str _ => true
  | 0, .list _ => false
  | 0, .tuple _ => false
  | n + 1, .list xs => shalAll n xs
  | n + 1, .tuple xs => shalAll n xs
  | _, .dict _ => false
def shalAll : Nat → List PyData → Bool
  | _, [] => true
  | n, x :: xs => shal n x && shalAll n xs
end
mutual
/-- no shorter than what repr shows -/
def wid : PyData → Nat
  | .none => 4
  | .bool _ => 5
  | .int i => i.natAbs.log2 + 3
  | .str x => (reprText x).length
  | .list xs => widAll xs + 3
  | .tuple xs => widAll xs + 3
  | .dict _ => 0
def widAll : List PyData → Nat
  | [] => 0
  | x :: xs => wid x + 2 + widAll xs
end
def isInt : PyData → Bool
  | .int _ => true
  | _ => false
def toInt : PyData → Option Int
  | .int i => some i
  | _ => none
def allInts : List PyData → Option (List Int)
  | [] => some []
  | .int i :: r => (allInts r).map (i :: ·)
  | _ => none
def toBool : PyData → Option Bool
  | .bool b => some b
  | _ => none
def allBools : List PyData → Option (List Bool)
  | [] => some []
  | .bool i :: r => (allBools r).map (i :: ·)
  | _ => none

/-! ### operators -/
inductive Bop where
  | add | sub | mul | fdiv | mod | pow
inductive Cop where
  | eq | ne | lt | le | gt | ge | isN | notN

/-- the place that an index means -/
def ixPl (n : Nat) (i : Int) : Option Nat := if 0 ≤ i then (if i < n then some i.toNat else none) else if -(n : Int) ≤ i then some (i + n).toNat else none
def cutIx (n d : Nat) : Option Int → Nat
  | none => d
  | some v => if v < 0 then (v + (n : Int)).toNat else min v.toNat n
def cut {α : Type} (xs : List α) (lo hi : Option Int) : List α := (xs.drop (cutIx xs.length 0 lo)).take (cutIx xs.length xs.length hi - cutIx xs.length 0 lo)

def addV : PyData → PyData → Option D
  | .int a, .int b => some (.dat (.int (a + b)))
  | .str a, .str b => if a.length + b.length ≤ LIM then some (.dat (.str (a ++ b))) else none
  | .tuple a, .tuple b => if a.length + b.length ≤ LIM then some (.dat (.tuple (a ++ b))) else none
  | .list a, .list b => if a.length + b.length ≤ LIM then some (.newL (a ++ b)) else none
  | _, _ => none
def mulV : PyData → PyData → Option D
  | .int a, .int b => if a.natAbs.log2 + b.natAbs.log2 < 1000000 then some (.dat (.int (a * b))) else none
  | .tuple a, .int k => if -1000 ≤ k ∧ k ≤ 1000 ∧ a.length ≤ 1000 then some (.dat (.tuple (List.replicate k.toNat a).flatten)) else none
  | .list a, .int k => if -1000 ≤ k ∧ k ≤ 100000 ∧ a.length * k.toNat ≤ LIM then some (.newL (List.replicate k.toNat a).flatten) else none
  | _, _ => none
def subV : PyData → PyData → Option D
  | .int a, .int b => some (.dat (.int (a - b)))
  | _, _ => none
def fdivV : PyData → PyData → Option D
  | .int a, .int b => if 0 < b ∧ b.natAbs.log2 < 9000 then some (.dat (.int (a / b))) else none
  | _, _ => none
def modV : PyData → PyData → Option D
  | .int a, .int b => if 0 < b then some (.dat (.int (a % b))) else none
  | _, _ => none
def powV : PyData → PyData → Option D
  | .int a, .int b => if 0 ≤ b ∧ b ≤ 1000000 ∧ a.natAbs < 2 ^ 64 then some (.dat (.int (a ^ b.toNat))) else none
  | _, _ => none
def bopV : Bop → PyData → PyData → Option D
  | .add => addV
  | .mul => mulV
  | .sub => subV
  | .fdiv => fdivV
  | .mod => modV
  | .pow => powV
def augV (op : Bop) (a b : PyData) : Option PyData := match op, a, b with
  | .add, .int i, .int j => some (.int (i + j))
  | .sub, .int i, .int j => some (.int (i - j))
  | _, _, _ => none
def isNone : PyData → Bool
  | .none => true
  | _ => false
def cmpI (p : Int → Int → Bool) : PyData → PyData → Option Bool
  | .int a, .int b => some (p a b)
  | _, _ => none
def cmpN (p : Bool → Bool) : PyData → PyData → Option Bool
  | x, .none => some (p (isNone x))
  | _, _ => none
def cmpE (p : Bool → Bool) (x y : PyData) : Option Bool := if shal 60 x && shal 60 y then some (p (PyData.eqv x y)) else none
def copV : Cop → PyData → PyData → Option Bool
  | .eq => cmpE id
  | .ne => cmpE not
  | .lt => cmpI fun a b => decide (a < b)
  | .le => cmpI fun a b => decide (a ≤ b)
  | .gt => cmpI fun a b => decide (b < a)
  | .ge => cmpI fun a b => decide (b ≤ a)
  | .isN => cmpN id
  | .notN => cmpN not
/-- x in xs -/
def inV (x : PyData) : PyData → Option Bool
  | .list xs => if shal 60 x && shalAll 60 xs then some (xs.any fun y => PyData.eqv y x) else none
  | .tuple xs => if shal 60 x && shalAll 60 xs then some (xs.any fun y => PyData.eqv y x) else none
  | _ => none
def idxV : PyData → PyData → Option PyData
  | .list xs, .int i => (ixPl xs.length i).bind fun j => xs[j]?
  | .tuple xs, .int i => (ixPl xs.length i).bind fun j => xs[j]?
  | _, _ => none
def cutV : PyData → Option Int → Option Int → Option D
  | .list xs, lo, hi => some (.newL (cut xs lo hi))
  | .tuple xs, lo, hi => some (.dat (.tuple (cut xs lo hi)))
  | _, _, _ => none

/-! ### built-in functions of data -/
inductive Ty where
  | int | bool | str | tuple | list | dict
  deriving DecidableEq
def tyOf : PyData → Option Ty
  | .none => none
  | .bool _ => some .bool
  | .int _ => some .int
  | .str _ => some .str
  | .list _ => some .list
  | .tuple _ => some .tuple
  | .dict _ => some .dict
def isiV (t : Ty) (d : PyData) : Bool := decide (tyOf d = some t) || (decide (t = .int) && decide (tyOf d = some .bool))
inductive Bi where
  | len | abs | int | repr | list | tuple | sum | all | any | sorted | min2 | max2
def truth : PyData → Option Bool
  | .none => some false
  | .bool b => some b
  | .int i => some (i != 0)
  | _ => none
def ins (a : Int) : List Int → List Int
  | [] => [a]
  | b :: r => if a ≤ b then a :: b :: r else b :: ins a r
def isort : List Int → List Int
  | [] => []
  | a :: r => ins a (isort r)
def lenB : List PyData → Option D
  | [.list xs] => some (.dat (.int xs.length))
  | [.tuple xs] => some (.dat (.int xs.length))
  | [.str x] => if x.length ≤ LIM then some (.dat (.int x.length)) else none
  | _ => none
def absB : List PyData → Option D
  | [.int i] => some (.dat (.int (if i < 0 then -i else i)))
  | _ => none
def intB : List PyData → Option D
  | [.int i] => some (.dat (.int i))
  | [.bool b] => some (.dat (.int (if b then 1 else 0)))
  | _ => none
def reprB : List PyData → Option D
  | [d] => if shal 60 d && d.showable && decide (wid d ≤ LIM) then some (.dat (.str d.shown)) else none
  | _ => none
def listB : List PyData → Option D
  | [.list xs] => some (.newL xs)
  | [.tuple xs] => some (.newL xs)
  | _ => none
def tupleB : List PyData → Option D
  | [.list xs] => some (.dat (.tuple xs))
  | [.tuple xs] => some (.dat (.tuple xs))
  | _ => none
def sumB : List PyData → Option D
  | [.list xs] => (allInts xs).map fun ns => .dat (.int ns.sum)
  | _ => none
def truths : List PyData → Option (List Bool)
  | [] => some []
  | x :: r => match truth x with
    | some b => (truths r).map (b :: ·)
    | none => none
def allB : List PyData → Option D
  | [.list xs] => (truths xs).map fun bs => .dat (.bool (bs.all id))
  | [.tuple xs] => (truths xs).map fun bs => .dat (.bool (bs.all id))
  | _ => none
def anyB : List PyData → Option D
  | [.list xs] => (truths xs).map fun bs => .dat (.bool (bs.any id))
  | [.tuple xs] => (truths xs).map fun bs => .dat (.bool (bs.any id))
  | _ => none
def sortedB : List PyData → Option D
  | [.list xs] => (allInts xs).map fun ns => .newL ((isort ns).map .int)
  | [.tuple xs] => (allInts xs).map fun ns => .newL ((isort ns).map .int)
  | _ => none
def min2B : List PyData → Option D
  | [.int i, .int j] => some (.dat (.int (if j < i then j else i)))
  | _ => none
def max2B : List PyData → Option D
  | [.int i, .int j] => some (.dat (.int (if j > i then j else i)))
  | _ => none
def biV : Bi → List PyData → Option D
  | .len => lenB
  | .abs => absB
  | .int => intB
  | .repr => reprB
  | .list => listB
  | .tuple => tupleB
  | .sum => sumB
  | .all => allB
  | .any => anyB
  | .sorted => sortedB
  | .min2 => min2B
  | .max2 => max2B

/-! ### dicts -/
def keyOk (t : Bool) : PyData → Bool
  | .int _ => !t
  | .str _ => !t
  | .tuple xs => t && xs.all fun x => match x with
    | .int _ => true
    | .str _ => true
    | _ => false
  | _ => false

mutual
def same : PyData → PyData → Bool
  | .none, .none => true
  | .bool a, .bool b => a == b
  | .int a, .int b => decide (a = b)
  | .str a, .str b => decide (a = b)
  | .list a, .list b => sameAll a b
  | .tuple a, .tuple b => sameAll a b
  | _, _ => false
def sameAll : List PyData → List PyData → Bool
  | [], [] => true
  | x :: xs, y :: ys => same x y && sameAll xs ys
  | _, _ => false
end
def dGet (kvs : List (PyData × PyData)) (k : PyData) : Option PyData := (kvs.find? fun p => same p.1 k).map (·.2)
def dPut (k v : PyData) : List (PyData × PyData) → List (PyData × PyData)
  | [] => [(k, v)]
  | (a, b) :: r => if same a k then (a, v) :: r else (a, b) :: dPut k v r

/-! ### the language -/
mutual
inductive Ex where
  | var (i : Nat)
  | con (d : PyData)
  | glob (x : Str) (d : PyData)
  | bin (op : Bop) (a b : Ex)
  | neg (a : Ex)
  | cmp (op : Cop) (a b : Ex)
  | chain (o1 o2 : Cop) (a b c : Ex)
  | isin (neg : Bool) (a b : Ex)
  | isinD (neg : Bool) (a b : Ex)
  | and (a b : Ex)
  | or (a b : Ex)
  | not (a : Ex)
  | ife (c a b : Ex)
  | tup (es : Exs)
  | lst (es : Exs)
  | emp (t : Bool)
  | idx (a b : Ex)
  | idxD (a b : Ex)
  | slc (a : Ex) (lo hi : Opt)
  | bi (f : Bi) (es : Exs)
  | lrng (a : Ex)
  | isi (a : Ex) (ts : List Ty) (par : Bool)
  | call (f : Nat) (es : Exs)
  | comp (elt : Ex) (tg : Tg) (it : It) (ifs : Opt) (own : List (Str × Nat))
  | cell (e : Ex)
  | app (a x : Ex)
  | pop (a : Ex)
  | popAt (a i : Ex)
  | index (a x : Ex)
inductive Exs where
  | nil
  | cons (e : Ex) (es : Exs)
inductive Opt where
  | none
  | some (e : Ex)
inductive Tg where
  | name (i : Nat)
  | tup (ts : Tgs)
  | sub (a b : Ex)
  | subD (a b : Ex)
inductive Tgs where
  | nil
  | cons (t : Tg) (ts : Tgs)
inductive It where
  | val (e : Ex)
  | rng1 (a : Ex)
  | rng2 (a b : Ex)
  | rng3 (a b c : Ex)
  | enum (e : Ex)
  | zip (es : Exs)
end
mutual
inductive St where
  | asg (t : Tg) (e : Ex)
  | par (i j : Nat) (es : Exs)
  | aug (a b : Ex) (op : Bop) (e : Ex)
  | expr (e : Ex)
  | ret (e : Ex)
  | ife (c : Ex) (a b : Sts)
  | for_ (t : Tg) (it : It) (body : Sts)
  | while_ (c : Ex) (body : Sts)
  | brk
  | cnt
  | pass
inductive Sts where
  | nil
  | cons (s : St) (r : Sts)
  | frz (i : Nat) (r : Sts)
end

def tgsLen : Tgs → Nat
  | .nil => 0
  | .cons _ ts => tgsLen ts + 1
/-! ### the evaluator -/
/-- a look at a value that changes nothing -/
def look : D → M PyData
  | .dat d => pure d
  | .newL xs => pure (.list xs)
  | .ref i => fun st => match st[i]? with
    | some (.lst xs) => .ok (.list xs) st
    | _ => .no
  | .newD _ _ => fail
/-- a value comes to stand in data: a cell is a cell no more -/
def settle : D → M PyData
  | .dat d => pure d
  | .newL xs => pure (.list xs)
  | .ref i => fun st => match st[i]? with
    | some (.lst xs) => .ok (.list xs) (st.set i .dead)
    | _ => .no
  | .newD _ kvs => pure (.dict kvs)
def lookDict : D → M (Bool × List (PyData × PyData))
  | .newD t kvs => pure (t, kvs)
  | .ref i => fun st => match st[i]? with
    | some (.dct t kvs) => .ok (t, kvs) st
    | _ => .no
  | _ => fail
/-- a value stored at a name or handed on: what was just made becomes data -/
def keep : D → D
  | .newL xs => .dat (.list xs)
  | .newD _ kvs => .dat (.dict kvs)
  | d => d
def looks : List D → M (List PyData)
  | [] => pure []
  | d :: ds => do
    let x ← look d
    let xs ← looks ds
    pure (x :: xs)
def asInt (d : D) : M Int := do
  let x ← look d
  ofO (toInt x)
def asBool (d : D) : M Bool := do
  let x ← look d
  ofO (toBool x)
def newCell (d : D) : M D := match d with
  | .newL xs => fun st => .ok (.ref st.length) (st ++ [.lst xs])
  | .newD t kvs => fun st => .ok (.ref st.length) (st ++ [.dct t kvs])
  | _ => fail
def cellAt (i : Nat) : M (List PyData) := fun st => match st[i]? with
  | some (.lst xs) => .ok xs st
  | _ => .no
def refOf : D → M Nat
  | .ref i => pure i
  | _ => fail
def putCell (i : Nat) (c : Cell) : M Unit := fun st => .ok () (st.set i c)
def wipeE (ρ : Env) : List Nat → Env
  | [] => ρ
  | v :: vs => (wipeE ρ vs).set v none
def rngL (lo : Int) : Nat → List PyData
  | 0 => []
  | n + 1 => .int lo :: rngL (lo + 1) n
def intsBy (lo c : Int) : Nat → List PyData
  | 0 => []
  | n + 1 => .int lo :: intsBy (lo + c) c n
def small (i : Int) : Bool := decide (-1000000 ≤ i ∧ i ≤ 1000000)
/-- how many turns range(a, b, c) has -/
def rngN (a b c : Int) : Nat := if c > 0 then ((b - a + c - 1) / c).toNat else if c < 0 then ((a - b - c - 1) / (-c)).toNat else 0
def enumL (xs : List PyData) (k : Int) : List PyData := match xs with
  | [] => []
  | x :: r => .tuple [.int k, x] :: enumL r (k + 1)
def zipL : List PyData → List PyData → List PyData
  | x :: xs, y :: ys => .tuple [x, y] :: zipL xs ys
  | _, _ => []

structure Ctx where
  call : Nat → List D → M D
  fuel : Nat

/-- a comprehension's turns -/
def lcGo (turn : PyData → M (Option PyData)) : List PyData → List PyData → M (List PyData)
  | [], acc => pure acc
  | x :: r, acc => do
    let o ← turn x
    match o with
    | some y => do
      guardB (decide (acc.length < LIM))
      lcGo turn r (acc ++ [y])
    | none => lcGo turn r acc

mutual
def evE (C : Ctx) : Ex → Env → M D
  | .var i, ρ => ofO (match ρ[i]? with
    | some (some d) => some d
    | _ => none)
  | .con d, _ => pure (.dat d)
  | .glob _ d, _ => pure (.dat d)
  | .bin op a b, ρ => do
    let x ← evE C a ρ
    let y ← evE C b ρ
    let u ← look x
    let v ← look y
    ofO (bopV op u v)
  | .neg a, ρ => do
    let x ← evE C a ρ
    let i ← asInt x
    pure (.dat (.int (-i)))
  | .cmp op a b, ρ => do
    let x ← evE C a ρ
    let y ← evE C b ρ
    let u ← look x
    let v ← look y
    ofO ((copV op u v).map fun b => .dat (.bool b))
  | .chain o1 o2 a b c, ρ => do
    let x ← evE C a ρ
    let y ← evE C b ρ
    let u ← look x
    let v ← look y
    let r ← ofO (copV o1 u v)
    match r with
    | true => do
      let z ← evE C c ρ
      let v' ← look y
      let w ← look z
      let r' ← ofO (copV o2 v' w)
      pure (.dat (.bool r'))
    | false => pure (.dat (.bool false))
  | .isin ng a b, ρ => do
    let x ← evE C a ρ
    let y ← evE C b ρ
    let u ← look x
    let v ← look y
    ofO (((inV u v).map fun b => if ng then !b else b).map fun b => .dat (.bool b))
  | .isinD ng a b, ρ => do
    let x ← evE C a ρ
    let y ← evE C b ρ
    let u ← look x
    let d ← lookDict y
    guardB (keyOk d.1 u)
    pure (.dat (.bool (if ng then !(dGet d.2 u).isSome else (dGet d.2 u).isSome)))
  | .and a b, ρ => do
    let x ← evE C a ρ
    let k ← asBool x
    match k with
    | true => evE C b ρ
    | false => pure (.dat (.bool false))
  | .or a b, ρ => do
    let x ← evE C a ρ
    let k ← asBool x
    match k with
    | true => pure (.dat (.bool true))
    | false => evE C b ρ
  | .not a, ρ => do
    let x ← evE C a ρ
    let k ← asBool x
    pure (.dat (.bool (!k)))
  | .ife c a b, ρ => do
    let x ← evE C c ρ
    let k ← asBool x
    match k with
    | true => evE C a ρ
    | false => evE C b ρ
  | .tup es, ρ => do
    let xs ← evEs C es ρ
    guardB (decide (xs.length ≤ LIM))
    pure (.dat (.tuple xs))
  | .lst es, ρ => do
    let xs ← evEs C es ρ
    guardB (decide (xs.length ≤ LIM))
    pure (.newL xs)
  | .emp t, _ => pure (.newD t [])
  | .idx a b, ρ => do
    let x ← evE C a ρ
    let y ← evE C b ρ
    let u ← look x
    let v ← look y
    ofO ((idxV u v).map .dat)
  | .idxD a b, ρ => do
    let x ← evE C a ρ
    let y ← evE C b ρ
    let d ← lookDict x
    let v ← look y
    guardB (keyOk d.1 v)
    let r ← ofO (dGet d.2 v)
    pure (.dat r)
  | .slc a lo hi, ρ => do
    let x ← evE C a ρ
    let l ← evO C lo ρ
    let h ← evO C hi ρ
    let u ← look x
    ofO (cutV u l h)
  | .bi f es, ρ => do
    let xs ← evAs C es ρ
    let us ← looks xs
    ofO (biV f us)
  | .lrng a, ρ => do
    let x ← evE C a ρ
    let i ← asInt x
    guardB (small i)
    pure (.newL (rngL 0 i.toNat))
  | .isi a ts _, ρ => do
    let x ← evE C a ρ
    let u ← look x
    pure (.dat (.bool (ts.any fun t => isiV t u)))
  | .call f es, ρ => do
    let xs ← evAs C es ρ
    C.call f xs
  | .comp elt tg it ifs own, ρ => do
    let xs ← evIt C it ρ
    let ys ← lcGo (fun x => noX do
      let ρ' ← evTg C tg (.dat x) (wipeE ρ (own.map (·.2)))
      let k ← evIf C ifs ρ'
      match k with
      | true => do
        let y ← evE C elt ρ'
        let z ← settle y
        pure (some z)
      | false => pure none) xs []
    pure (.newL ys)
  | .cell e, ρ => do
    let x ← evE C e ρ
    newCell x
  | .app a x, ρ => do
    let p ← evE C a ρ
    let i ← refOf p
    let _ ← cellAt i
    let y ← evE C x ρ
    let z ← settle y
    let xs ← cellAt i
    guardB (decide (xs.length < LIM))
    putCell i (.lst (xs ++ [z]))
    pure (.dat .none)
  | .pop a, ρ => do
    let p ← evE C a ρ
    let i ← refOf p
    let xs ← cellAt i
    let y ← ofO xs.getLast?
    putCell i (.lst xs.dropLast)
    pure (.dat y)
  | .popAt a b, ρ => do
    let p ← evE C a ρ
    let i ← refOf p
    let _ ← cellAt i
    let y ← evE C b ρ
    let k ← asInt y
    let xs ← cellAt i
    guardB (decide (xs.length ≤ LIM))
    let j ← ofO (ixPl xs.length k)
    let z ← ofO xs[j]?
    putCell i (.lst (xs.eraseIdx j))
    pure (.dat z)
  | .index a b, ρ => do
    let x ← evE C a ρ
    let y ← evE C b ρ
    let u ← look x
    let v ← look y
    match u with
    | .list xs => do
      guardB (shal 60 v && shalAll 60 xs)
      let j ← ofO (xs.findIdx? fun z => PyData.eqv z v)
      pure (.dat (.int j))
    | .tuple xs => do
      guardB (shal 60 v && shalAll 60 xs)
      let j ← ofO (xs.findIdx? fun z => PyData.eqv z v)
      pure (.dat (.int j))
    | _ => fail
/-- items of a display -/
def evEs (C : Ctx) : Exs → Env → M (List PyData)
  | .nil, _ => pure []
  | .cons e es, ρ => do
    let x ← evE C e ρ
    let u ← settle x
    let us ← evEs C es ρ
    pure (u :: us)
/-- arguments -/
def evAs (C : Ctx) : Exs → Env → M (List D)
  | .nil, _ => pure []
  | .cons e es, ρ => do
    let x ← evE C e ρ
    let us ← evAs C es ρ
    pure (keep x :: us)
def evO (C : Ctx) : Opt → Env → M (Option Int)
  | .none, _ => pure none
  | .some e, ρ => do
    let x ← evE C e ρ
    let i ← asInt x
    pure (some i)
def evIf (C : Ctx) : Opt → Env → M Bool
  | .none, _ => pure true
  | .some e, ρ => do
    let x ← evE C e ρ
    asBool x
def evTg (C : Ctx) : Tg → D → Env → M Env
  | .name i, d, ρ => pure (ρ.set i (some (keep d)))
  | .tup ts, d, ρ => do
    let u ← look d
    match u with
    | .tuple xs => do
      guardB (decide (xs.length = tgsLen ts))
      evTgs C ts xs ρ
    | _ => fail
  | .sub a b, d, ρ => do
    let p ← evE C a ρ
    let y ← evE C b ρ
    let k ← asInt y
    let z ← settle d
    let i ← refOf p
    let xs ← cellAt i
    let j ← ofO (ixPl xs.length k)
    putCell i (.lst (xs.set j z))
    pure ρ
  | .subD a b, d, ρ => do
    let p ← evE C a ρ
    let y ← evE C b ρ
    let k ← look y
    let z ← settle d
    let c ← lookDict p
    let i ← refOf p
    guardB (keyOk c.1 k && decide (c.2.length < LIM))
    putCell i (.dct c.1 (dPut k z c.2))
    pure ρ
def evTgs (C : Ctx) : Tgs → List PyData → Env → M Env
  | .nil, [], ρ => pure ρ
  | .cons t ts, x :: xs, ρ => do
    let ρ' ← evTg C t (.dat x) ρ
    evTgs C ts xs ρ'
  | _, _, _ => fail
def evIt (C : Ctx) : It → Env → M (List PyData)
  | .val e, ρ => do
    let x ← evE C e ρ
    match keep x with
    | .dat (.list xs) => pure xs
    | .dat (.tuple xs) => pure xs
    | _ => fail
  | .rng1 a, ρ => do
    let x ← evE C a ρ
    let i ← asInt x
    guardB (small i)
    pure (rngL 0 i.toNat)
  | .rng2 a b, ρ => do
    let x ← evE C a ρ
    let y ← evE C b ρ
    let i ← asInt x
    let j ← asInt y
    guardB (small i && small j)
    pure (rngL i (j - i).toNat)
  | .rng3 a b c, ρ => do
    let x ← evE C a ρ
    let y ← evE C b ρ
    let z ← evE C c ρ
    let i ← asInt x
    let j ← asInt y
    let k ← asInt z
    guardB (small i && small j && small k && decide (k ≠ 0))
    pure (intsBy i k (rngN i j k))
  | .enum e, ρ => do
    let x ← evE C e ρ
    match keep x with
    | .dat (.list xs) => pure (enumL xs 0)
    | _ => fail
  | .zip es, ρ => do
    let xs ← evAs C es ρ
    match xs with
    | [.dat (.list x), .dat (.list y)] => pure (zipL x y)
    | [.dat (.tuple x), .dat (.tuple y)] => pure (zipL x y)
    | _ => fail
end

inductive Out where
  | next (ρ : Env)
  | ret (d : D)
  | brk (ρ : Env)
  | cnt (ρ : Env)

def forGo (turn : PyData → Env → M Out) : List PyData → Env → M Out
  | [], ρ => pure (.next ρ)
  | x :: r, ρ => do
    let o ← turn x ρ
    match o with
    | .next ρ' => forGo turn r ρ'
    | .cnt ρ' => forGo turn r ρ'
    | .brk ρ' => pure (.next ρ')
    | .ret d => pure (.ret d)
def whileGo (c : Env → M Bool) (body : Env → M Out) : Nat → Env → M Out
  | 0, _ => fail
  | n + 1, ρ => do
    let k ← c ρ
    match k with
    | false => pure (.next ρ)
    | true => do
      let o ← body ρ
      match o with
      | .next ρ' => whileGo c body n ρ'
      | .cnt ρ' => whileGo c body n ρ'
      | .brk ρ' => pure (.next ρ')
      | .ret d => pure (.ret d)

/-- the cell at a name becomes data -/
def frzE (i : Nat) (ρ : Env) : M Env := match ρ[i]? with
  | some (some (.ref j)) => fun st => match st[j]? with
    | some (.lst xs) => .ok (ρ.set i (some (.dat (.list xs)))) (st.set j .dead)
    | _ => .no
  | _ => fail

mutual
def evSt (C : Ctx) : St → Env → M Out
  | .asg t e, ρ => do
    let x ← evE C e ρ
    let ρ' ← noX (evTg C t x ρ)
    pure (.next ρ')
  | .par i j es, ρ => do
    let xs ← evAs C es ρ
    match xs with
    | [x, y] => pure (.next ((ρ.set i (some x)).set j (some y)))
    | _ => fail
  | .aug a b op e, ρ => do
    let p ← evE C a ρ
    let y ← evE C b ρ
    let k ← asInt y
    let i ← refOf p
    let xs ← cellAt i
    guardB (small k)
    let j ← ofO (ixPl xs.length k)
    let old ← ofO xs[j]?
    let z ← evE C e ρ
    let u ← look z
    let r ← ofO (augV op old u)
    let xs' ← cellAt i
    let j' ← ofO (ixPl xs'.length k)
    putCell i (.lst (xs'.set j' r))
    pure (.next ρ)
  | .expr e, ρ => do
    let _ ← evE C e ρ
    pure (.next ρ)
  | .ret e, ρ => do
    let x ← evE C e ρ
    pure (.ret x)
  | .ife c a b, ρ => do
    let x ← evE C c ρ
    let k ← asBool x
    match k with
    | true => evSts C a ρ
    | false => evSts C b ρ
  | .for_ t it body, ρ => do
    let xs ← evIt C it ρ
    forGo (fun x ρ' => do
      let ρ2 ← noX (evTg C t (.dat x) ρ')
      evSts C body ρ2) xs ρ
  | .while_ c body, ρ => whileGo (fun ρ' => do
      let x ← evE C c ρ'
      asBool x) (fun ρ' => evSts C body ρ') C.fuel ρ
  | .brk, ρ => pure (.brk ρ)
  | .cnt, ρ => pure (.cnt ρ)
  | .pass, ρ => pure (.next ρ)
def evSts (C : Ctx) : Sts → Env → M Out
  | .nil, ρ => pure (.next ρ)
  | .cons s r, ρ => do
    let o ← evSt C s ρ
    match o with
    | .next ρ' => evSts C r ρ'
    | o => pure o
  | .frz i r, ρ => do
    let ρ' ← frzE i ρ
    evSts C r ρ'
end

structure Def where
  name : Str
  ps : List Str
  names : List Str
  body : Sts

/-- what a call hands back: its own cells are gone -/
def leave (n : Nat) : D → M D
  | .ref i => if i < n then fun st => .ok (.ref i) (st.take n) else fun st => match st[i]? with
    | some (.lst xs) => .ok (.newL xs) (st.take n)
    | some (.dct t kvs) => .ok (.newD t kvs) (st.take n)
    | _ => .no
  | d => fun st => .ok d (st.take n)
def cutX (n : Nat) (m : M D) : M D := fun st => match m st with
  | .exc x st' => .exc x (st'.take n)
  | r => r
def runDef (C : Ctx) (d : Def) (args : List D) : M D := fun st =>
  if args.length = d.ps.length then
    cutX st.length (do
      let o ← evSts C d.body (args.map some ++ List.replicate (d.names.length - args.length) none)
      match o with
      | .ret x => leave st.length x
      | .next _ => leave st.length (.dat .none)
      | _ => fail) st
  else .no
def callF (P : List Def) (w : Nat) : Nat → Nat → List D → M D
  | 0, _, _ => fail
  | k + 1, f, args => match P[f]? with
    | some d => runDef ⟨callF P w k, w⟩ d args
    | none => fail
end MP
end MPy

section MRel
set_option Elab.async false
set_option linter.all false
set_option maxRecDepth 100000
set_option autoImplicit false
/-! MRel: how values and stores of MPy lie in the hand layer's abstract heap; weakest preconditions of MPy's runs. -/
namespace MP
open PySem PySem.Spec PyProof.Rows L2

/-! ### runs -/
def wp {α : Type} (Xp : Exc → Store → Prop) (m : M α) (st : Store) (P : α → Store → Prop) : Prop := match m st with
  | .ok a st' => P a st'
  | .exc x st' => Xp x st'
  | .no => False
section
variable {Xp : Exc → Store → Prop} {α β : Type} {m : M α} {k : α → M β} {st : Store} {P P' : α → Store → Prop} {R : β → Store → Prop}
theorem wp_mono (h : wp Xp m st P) (i : ∀ a s, P a s → P' a s) : wp Xp m st P' := by
  unfold wp at h ⊢
  cases e : m st with
  | ok a s => rw [e] at h; exact i a s h
  | exc x s => rw [e] at h; exact h
  | no => rw [e] at h; exact h
theorem wp_mono2 {Xq : Exc → Store → Prop} (h : wp Xp m st P) (i : ∀ a s, P a s → P' a s) (j : ∀ x s, Xp x s → Xq x s) : wp Xq m st P' := by
  unfold wp at h ⊢
  cases e : m st with
  | ok a s => rw [e] at h; exact i a s h
  | exc x s => rw [e] at h; exact j x s h
  | no => rw [e] at h; exact h
theorem wp_bind : wp Xp (m >>= k) st R ↔ wp Xp m st fun a s => wp Xp (k a) s R := by
  unfold wp
  show (match M.bnd m k st with
    | .ok a st' => R a st'
    | .exc x st' => Xp x st'
    | .no => False) ↔ _
  unfold M.bnd
  cases e : m st with
  | ok a s => exact Iff.rfl
  | exc x s => exact Iff.rfl
  | no => exact Iff.rfl
theorem wp_pure {a : α} : wp Xp (pure a : M α) st P ↔ P a st := Iff.rfl
theorem wp_fail : wp Xp (fail : M α) st P ↔ False := Iff.rfl
theorem wp_ofO {o : Option α} : wp Xp (ofO o) st P ↔ ∃ a, o = some a ∧ P a st := by
  cases o with
  | none => exact ⟨fun h => h.elim, fun ⟨_, e, _⟩ => nomatch e⟩
  | some a => exact ⟨fun h => ⟨a, rfl, h⟩, fun ⟨b, e, h⟩ => by cases e; exact h⟩
theorem wp_noX : wp Xp (noX m) st P ↔ wp (fun _ _ => False) m st P := by
  unfold wp noX
  cases e : m st <;> rfl
theorem wp_anyX (h : wp (fun _ _ => False) m st P) : wp Xp m st P := wp_mono2 h (fun _ _ z => z) fun _ _ z => z.elim
theorem wp_guard {b : Bool} {P : Unit → Store → Prop} : wp Xp (guardB b) st P ↔ b = true ∧ P () st := by
  cases b with
  | true => exact ⟨fun h => ⟨rfl, h⟩, fun h => h.2⟩
  | false => exact ⟨fun h => h.elim, fun h => nomatch h.1⟩
end

section
variable {Xp : Exc → Store → Prop} {st : Store} {i : Nat}
theorem wp_lookR {P : PyData → Store → Prop} : wp Xp (look (.ref i)) st P ↔ ∃ xs, st[i]? = some (.lst xs) ∧ P (.list xs) st := by
  unfold wp look
  cases q : st[i]? with
  | none => simp [q]
  | some c => cases c <;> simp [q]
theorem wp_settleR {P : PyData → Store → Prop} : wp Xp (settle (.ref i)) st P ↔ ∃ xs, st[i]? = some (.lst xs) ∧ P (.list xs) (st.set i .dead) := by
  unfold wp settle
  cases q : st[i]? with
  | none => simp [q]
  | some c => cases c <;> simp [q]
theorem wp_lookDR {P : Bool × List (PyData × PyData) → Store → Prop} : wp Xp (lookDict (.ref i)) st P ↔ ∃ t kvs, st[i]? = some (.dct t kvs) ∧ P (t, kvs) st := by
  unfold wp lookDict
  cases q : st[i]? with
  | none => simp [q]
  | some c =>
    cases c with
    | dct t kvs =>
      simp only [q]
      exact ⟨fun h => ⟨t, kvs, rfl, h⟩, fun ⟨t', k', e, h⟩ => by cases e; exact h⟩
    | _ => simp [q]
theorem wp_cellAt {P : List PyData → Store → Prop} : wp Xp (cellAt i) st P ↔ ∃ xs, st[i]? = some (.lst xs) ∧ P xs st := by
  unfold wp cellAt
  cases q : st[i]? with
  | none => simp [q]
  | some c => cases c <;> simp [q]
theorem wp_putCell {c : Cell} {P : Unit → Store → Prop} : wp Xp (putCell i c) st P ↔ P () (st.set i c) := Iff.rfl
end

/-! ### data in the abstract heap -/
def keyD : Key → PyData
  | .inl i => .int i
  | .inr x => .str x
mutual
inductive Dv (I : Addr → Prop) (H : Hp) : V → PyData → Prop
  | non : Dv I H .non .none
  | bl (b : Bool) : Dv I H (.bl b) (.bool b)
  | int (i : Int) : Dv I H (.int i) (.int i)
  | str (x : Str) : Dv I H (.str x) (.str x)
  | lst {a : Addr} {vs : List V} {ds : List PyData} : I a → Rd H a (.lst vs) → DvAll I H vs ds → Dv I H (.ref a) (.list ds)
  | tup {a : Addr} {vs : List V} {ds : List PyData} : I a → Rd H a (.tup vs) → DvAll I H vs ds → Dv I H (.ref a) (.tuple ds)
  | dctK {a : Addr} {ks : List (Key × V)} {kvs : List (PyData × PyData)} : I a → H a = some (.dK ks) → DvKv I H ks kvs → Dv I H (.ref a) (.dict kvs)
  | dctT {a : Addr} {ks : List (List Key × V)} {kvs : List (PyData × PyData)} : I a → H a = some (.dT ks) → DvKt I H ks kvs → Dv I H (.ref a) (.dict kvs)
inductive DvAll (I : Addr → Prop) (H : Hp) : List V → List PyData → Prop
  | nil : DvAll I H [] []
  | cons {v : V} {vs : List V} {d : PyData} {ds : List PyData} : Dv I H v d → DvAll I H vs ds → DvAll I H (v :: vs) (d :: ds)
inductive DvKv (I : Addr → Prop) (H : Hp) : List (Key × V) → List (PyData × PyData) → Prop
  | nil : DvKv I H [] []
  | cons {k : Key} {v : V} {vs : List (Key × V)} {d : PyData} {ds : List (PyData × PyData)} : Dv I H v d → DvKv I H vs ds → DvKv I H ((k, v) :: vs) ((keyD k, d) :: ds)
inductive DvKt (I : Addr → Prop) (H : Hp) : List (List Key × V) → List (PyData × PyData) → Prop
  | nil : DvKt I H [] []
  | cons {k : List Key} {v : V} {vs : List (List Key × V)} {d : PyData} {ds : List (PyData × PyData)} : Dv I H v d → DvKt I H vs ds → DvKt I H ((k, v) :: vs) ((.tuple (k.map keyD), d) :: ds)
end
section
variable {I I' : Addr → Prop} {H H' : Hp}
mutual
theorem Dv.mono (hi : ∀ a, I a → I' a) (hh : ∀ a o, I a → H a = some o → H' a = some o) : ∀ {v : V} {d : PyData}, Dv I H v d → Dv I' H' v d
  | _, _, .non => .non
  | _, _, .bl b => .bl b
  | _, _, .int i => .int i
  | _, _, .str x => .str x
  | _, _, .lst i r h => .lst (hi _ i) (r.elim (fun z => .inl (hh _ _ i z)) fun ⟨o, z⟩ => .inr ⟨o, hh _ _ i z⟩) (DvAll.mono hi hh h)
  | _, _, .tup i r h => .tup (hi _ i) (r.elim (fun z => .inl (hh _ _ i z)) fun ⟨o, z⟩ => .inr ⟨o, hh _ _ i z⟩) (DvAll.mono hi hh h)
  | _, _, .dctK i r h => .dctK (hi _ i) (hh _ _ i r) (DvKv.mono hi hh h)
  | _, _, .dctT i r h => .dctT (hi _ i) (hh _ _ i r) (DvKt.mono hi hh h)
theorem DvAll.mono (hi : ∀ a, I a → I' a) (hh : ∀ a o, I a → H a = some o → H' a = some o) : ∀ {v : List V} {d : List PyData}, DvAll I H v d → DvAll I' H' v d
  | _, _, .nil => .nil
  | _, _, .cons x h => .cons (Dv.mono hi hh x) (DvAll.mono hi hh h)
theorem DvKv.mono (hi : ∀ a, I a → I' a) (hh : ∀ a o, I a → H a = some o → H' a = some o) : ∀ {v : List (Key × V)} {d : List (PyData × PyData)}, DvKv I H v d → DvKv I' H' v d
  | _, _, .nil => .nil
  | _, _, .cons x h => .cons (Dv.mono hi hh x) (DvKv.mono hi hh h)
theorem DvKt.mono (hi : ∀ a, I a → I' a) (hh : ∀ a o, I a → H a = some o → H' a = some o) : ∀ {v : List (List Key × V)} {d : List (PyData × PyData)}, DvKt I H v d → DvKt I' H' v d
  | _, _, .nil => .nil
  | _, _, .cons x h => .cons (Dv.mono hi hh x) (DvKt.mono hi hh h)
end
theorem DvAll.length : ∀ {vs : List V} {ds : List PyData}, DvAll I H vs ds → vs.length = ds.length
  | _, _, .nil => rfl
  | _, _, .cons _ h => by rw [List.length_cons, List.length_cons, DvAll.length h]
theorem DvAll.get : ∀ {vs : List V} {ds : List PyData} {i : Nat} {d : PyData}, DvAll I H vs ds → ds[i]? = some d → ∃ v, vs[i]? = some v ∧ Dv I H v d
  | _, _, _, _, .nil, e => by simp at e
  | _, _, 0, _, .cons x _, e => by simp at e; subst e; exact ⟨_, rfl, x⟩
  | _, _, i + 1, d, .cons _ h, e => by
    obtain ⟨v, h1, h2⟩ := DvAll.get (i := i) (d := d) h (by simpa using e)
    exact ⟨v, by simpa using h1, h2⟩
theorem DvAll.getV : ∀ {vs : List V} {ds : List PyData} {i : Nat} {v : V}, DvAll I H vs ds → vs[i]? = some v → ∃ d, ds[i]? = some d ∧ Dv I H v d
  | _, _, _, _, .nil, e => by simp at e
  | _, _, 0, _, .cons x _, e => by simp at e; subst e; exact ⟨_, rfl, x⟩
  | _, _, i + 1, d, .cons _ h, e => by
    obtain ⟨v, h1, h2⟩ := DvAll.getV (i := i) (v := d) h (by simpa using e)
    exact ⟨v, by simpa using h1, h2⟩
theorem DvAll.append : ∀ {vs us : List V} {ds es : List PyData}, DvAll I H vs ds → DvAll I H us es → DvAll I H (vs ++ us) (ds ++ es)
  | _, _, _, _, .nil, s => s
  | _, _, _, _, .cons r t, s => .cons r (DvAll.append t s)
theorem DvAll.take : ∀ {vs : List V} {ds : List PyData} (n : Nat), DvAll I H vs ds → DvAll I H (vs.take n) (ds.take n)
  | _, _, 0, _ => .nil
  | _, _, _ + 1, .nil => .nil
  | _, _, n + 1, .cons r t => .cons r (DvAll.take n t)
theorem DvAll.drop : ∀ {vs : List V} {ds : List PyData} (n : Nat), DvAll I H vs ds → DvAll I H (vs.drop n) (ds.drop n)
  | _, _, 0, r => r
  | _, _, _ + 1, .nil => .nil
  | _, _, n + 1, .cons _ t => DvAll.drop n t
theorem DvAll.set {v : V} {d : PyData} (x : Dv I H v d) : ∀ {vs : List V} {ds : List PyData} (n : Nat), DvAll I H vs ds → DvAll I H (vs.set n v) (ds.set n d)
  | _, _, _, .nil => .nil
  | _, _, 0, .cons _ t => .cons x t
  | _, _, n + 1, .cons r t => .cons r (DvAll.set x n t)
theorem DvAll.erase : ∀ {vs : List V} {ds : List PyData} (n : Nat), DvAll I H vs ds → DvAll I H (vs.eraseIdx n) (ds.eraseIdx n)
  | _, _, _, .nil => .nil
  | _, _, 0, .cons _ t => t
  | _, _, n + 1, .cons r t => .cons r (DvAll.erase n t)
theorem DvAll.dropLast {vs : List V} {ds : List PyData} (h : DvAll I H vs ds) : DvAll I H vs.dropLast ds.dropLast := by
  rw [List.dropLast_eq_take, List.dropLast_eq_take, h.length]
  exact h.take _
theorem DvAll.flatRep {vs : List V} {ds : List PyData} (h : DvAll I H vs ds) : ∀ n, DvAll I H (List.replicate n vs).flatten (List.replicate n ds).flatten
  | 0 => .nil
  | n + 1 => by
    rw [List.replicate_succ, List.replicate_succ, List.flatten_cons, List.flatten_cons]
    exact h.append (DvAll.flatRep h n)
theorem DvAll.cut {vs : List V} {ds : List PyData} (h : DvAll I H vs ds) (lo hi : Option Int) : DvAll I H (L2.cutV vs lo hi) (MP.cut ds lo hi) := by
  have e : ∀ n d o, HT.sIx n d o = cutIx n d o := fun n d o => by cases o <;> rfl
  unfold L2.cutV MP.cut
  rw [e, e, h.length]
  exact (h.drop _).take _
theorem DvAll.ints : ∀ {vs : List V} {ds : List PyData} {ns : List Int}, DvAll I H vs ds → allInts ds = some ns → vs = ns.map V.int ∧ ds = ns.map PyData.int
  | _, _, _, .nil, e => by
    unfold allInts at e
    cases e
    exact ⟨rfl, rfl⟩
  | _, _, ns, .cons (ds := ds) x h, e => by
    cases x with
    | int i =>
      unfold allInts at e
      cases q : allInts ds with
      | none => rw [q] at e; cases e
      | some ms =>
        rw [q] at e
        cases e
        obtain ⟨h1, h2⟩ := DvAll.ints h q
        subst h1 h2
        exact ⟨rfl, rfl⟩
    | _ => unfold allInts at e; cases e
theorem DvAll.bools : ∀ {vs : List V} {ds : List PyData} {ns : List Bool}, DvAll I H vs ds → allBools ds = some ns → vs = ns.map V.bl ∧ ds = ns.map PyData.bool
  | _, _, _, .nil, e => by
    unfold allBools at e
    cases e
    exact ⟨rfl, rfl⟩
  | _, _, ns, .cons (ds := ds) x h, e => by
    cases x with
    | bl i =>
      unfold allBools at e
      cases q : allBools ds with
      | none => rw [q] at e; cases e
      | some ms =>
        rw [q] at e
        cases e
        obtain ⟨h1, h2⟩ := DvAll.bools h q
        subst h1 h2
        exact ⟨rfl, rfl⟩
    | _ => unfold allBools at e; cases e
theorem DvAll.of_ints : ∀ (ns : List Int), DvAll I H (ns.map V.int) (ns.map PyData.int)
  | [] => .nil
  | n :: r => .cons (.int n) (DvAll.of_ints r)
mutual
theorem Dv.dp (K : PySem.W.Frag) : ∀ {v : V} {d : PyData}, Dv I H v d → d.plain = true → Dp K H v d
  | _, _, .non, _ => .non
  | _, _, .bl b, _ => .bl b
  | _, _, .int i, _ => .int i
  | _, _, .str x, _ => .str x
  | _, _, .lst _ r h, p => .lst (.inl r) (DvAll.dp K h (by simpa only [PyData.plain] using p))
  | _, _, .tup _ r h, p => .tup (.inl r) (DvAll.dp K h (by simpa only [PyData.plain] using p))
  | _, _, .dctK _ _ _, p => by simp only [PyData.plain] at p; cases p
  | _, _, .dctT _ _ _, p => by simp only [PyData.plain] at p; cases p
theorem DvAll.dp (K : PySem.W.Frag) : ∀ {v : List V} {d : List PyData}, DvAll I H v d → PyData.plainAll d = true → DpAll K H v d
  | _, _, .nil, _ => .nil
  | _, _, .cons x h, p => by
    simp only [PyData.plainAll, Bool.and_eq_true] at p
    exact .cons (Dv.dp K x p.1) (DvAll.dp K h p.2)
end
end
mutual
theorem shal_plain : ∀ (n : Nat) (d : PyData), shal n d = true → d.plain = true
  | _, .none, _ => by simp only [PyData.plain]
  | _, .bool _, _ => by simp only [PyData.plain]
  | _, .int _, _ => by simp only [PyData.plain]
  | _, .str _, _ => by simp only [PyData.plain]
  | 0, .list _, h => by simp only [shal] at h; cases h
  | 0, .tuple _, h => by simp only [shal] at h; cases h
  | n + 1, .list xs, h => by simp only [shal] at h; simp only [PyData.plain]; exact shalAll_plain n xs h
  | n + 1, .tuple xs, h => by simp only [shal] at h; simp only [PyData.plain]; exact shalAll_plain n xs h
  | 0, .dict _, h => by simp only [shal] at h; cases h
  | n + 1, .dict _, h => by simp only [shal] at h; cases h
theorem shalAll_plain : ∀ (n : Nat) (d : List PyData), shalAll n d = true → PyData.plainAll d = true
  | _, [], _ => by simp only [PyData.plainAll]
  | n, x :: xs, h => by
    simp only [shalAll, Bool.and_eq_true] at h
    simp only [PyData.plainAll, Bool.and_eq_true]
    exact ⟨shal_plain n x h.1, shalAll_plain n xs h.2⟩
end
mutual
theorem shal_depth : ∀ (n : Nat) (d : PyData), shal n d = true → d.depth ≤ n
  | n, .none, _ => by simp only [PyData.depth]; omega
  | n, .bool _, _ => by simp only [PyData.depth]; omega
  | n, .int _, _ => by simp only [PyData.depth]; omega
  | n, .str _, _ => by simp only [PyData.depth]; omega
  | 0, .list _, h => by simp only [shal] at h; cases h
  | 0, .tuple _, h => by simp only [shal] at h; cases h
  | n + 1, .list xs, h => by simp only [shal] at h; simp only [PyData.depth]; have := shalAll_depth n xs h; omega
  | n + 1, .tuple xs, h => by simp only [shal] at h; simp only [PyData.depth]; have := shalAll_depth n xs h; omega
  | 0, .dict _, h => by simp only [shal] at h; cases h
  | n + 1, .dict _, h => by simp only [shal] at h; cases h
theorem shalAll_depth : ∀ (n : Nat) (d : List PyData), shalAll n d = true → PyData.depthAll d ≤ n
  | n, [], _ => by simp only [PyData.depthAll]; omega
  | n, x :: xs, h => by
    simp only [shalAll, Bool.and_eq_true] at h
    simp only [PyData.depthAll]
    have h1 := shal_depth n x h.1
    have h2 := shalAll_depth n xs h.2
    omega
end

/-! ### the world between a store and an abstract heap -/
/-- where the cells lie; what is data (never written) -/
structure Wd where
  eta : List Addr
  im : Addr → Prop
def DictOk (I : Addr → Prop) (H : Hp) (a : Addr) (t : Bool) (kvs : List (PyData × PyData)) : Prop := match t with
  | false => ∃ ks, H a = some (.dK ks) ∧ DvKv I H ks kvs
  | true => ∃ ks, H a = some (.dT ks) ∧ DvKt I H ks kvs
def CellOk (W : Wd) (H : Hp) (a : Addr) : Cell → Prop
  | .lst xs => ¬ W.im a ∧ ∃ vs, H a = some (.lst vs) ∧ DvAll W.im H vs xs
  | .dct t kvs => ¬ W.im a ∧ DictOk W.im H a t kvs
  | .dead => True
structure Gd (W : Wd) (st : Store) (H : Hp) : Prop where
  len : W.eta.length = st.length
  nd : W.eta.Nodup
  cells : ∀ (i : Nat) (c : Cell) (a : Addr), st[i]? = some c → W.eta[i]? = some a → CellOk W H a c
  imm : ∀ a, W.im a → H a ≠ none
  tr : ∀ a, a ∈ W.eta → H a ≠ none
structure Ext (W : Wd) (H : Hp) (W' : Wd) (H' : Hp) : Prop where
  pre : ∃ t, W'.eta = W.eta ++ t
  im : ∀ a, W.im a → W'.im a
  frm : ∀ a o, H a = some o → (a ∉ W.eta ∨ W.im a) → H' a = some o
  newI : ∀ a, W'.im a → W.im a ∨ H a = none ∨ a ∈ W.eta
  newE : ∀ a, a ∈ W'.eta → a ∈ W.eta ∨ H a = none
  dom : ∀ a, H a ≠ none → H' a ≠ none
theorem Ext.refl {W : Wd} {H : Hp} : Ext W H W H := ⟨⟨[], by simp⟩, fun _ h => h, fun _ _ h _ => h, fun _ h => .inl h, fun _ h => .inl h, fun _ h => h⟩
theorem Ext.trans {W W1 W2 : Wd} {H H1 H2 : Hp} (x : Ext W H W1 H1) (y : Ext W1 H1 W2 H2) : Ext W H W2 H2 where
  pre := by
    obtain ⟨t, e⟩ := x.pre
    obtain ⟨u, f⟩ := y.pre
    exact ⟨t ++ u, by rw [f, e, List.append_assoc]⟩
  im := fun a h => y.im a (x.im a h)
  frm := fun a o h k => by
    refine y.frm a o (x.frm a o h k) ?_
    rcases k with k | k
    · refine .inl fun z => ?_
      rcases x.newE a z with z | z
      · exact k z
      · rw [h] at z; cases z
    · exact .inr (x.im a k)
  newI := fun a h => by
    rcases y.newI a h with h | h | h
    · exact x.newI a h
    · refine .inr (.inl ?_)
      cases q : H a with
      | none => rfl
      | some o => exact absurd h (x.dom a (by rw [q]; simp))
    · rcases x.newE a h with h | h
      · exact .inr (.inr h)
      · exact .inr (.inl h)
  newE := fun a h => by
    rcases y.newE a h with h | h
    · exact x.newE a h
    · refine .inr ?_
      cases q : H a with
      | none => rfl
      | some o => exact absurd h (x.dom a (by rw [q]; simp))
  dom := fun a h => y.dom a (x.dom a h)
section
variable {W W' : Wd} {H H' : Hp}
theorem Ext.dv (x : Ext W H W' H') {v : V} {d : PyData} (h : Dv W.im H v d) : Dv W'.im H' v d := h.mono x.im fun a o i e => x.frm a o e (.inr i)
theorem Ext.all (x : Ext W H W' H') {v : List V} {d : List PyData} (h : DvAll W.im H v d) : DvAll W'.im H' v d := h.mono x.im fun a o i e => x.frm a o e (.inr i)
theorem Ext.at (x : Ext W H W' H') {i : Nat} {a : Addr} (h : W.eta[i]? = some a) : W'.eta[i]? = some a := by
  obtain ⟨t, e⟩ := x.pre
  rw [e, List.getElem?_append_left (List.getElem?_eq_some_iff.mp h).1]
  exact h
/-- something just made, that nothing holds -/
def Loose (W : Wd) (H : Hp) (p : Addr) : Prop := H p ≠ none ∧ ¬ W.im p ∧ p ∉ W.eta
theorem Ext.loose (x : Ext W H W' H') {p : Addr} (h : Loose W H p) : Loose W' H' p := by
  refine ⟨x.dom p h.1, fun z => ?_, fun z => ?_⟩
  · rcases x.newI p z with z | z | z
    · exact h.2.1 z
    · exact h.1 z
    · exact h.2.2 z
  · rcases x.newE p z with z | z
    · exact h.2.2 z
    · exact h.1 z
theorem Ext.keepL (x : Ext W H W' H') {p : Addr} {o : HO} (h : Loose W H p) (e : H p = some o) : H' p = some o := x.frm p o e (.inl h.2.2)
theorem Ext.fresh (x : Ext W H W' H') {p : Addr} (h : H' p = none) : H p = none := by
  cases q : H p with
  | none => rfl
  | some o => exact absurd h (x.dom p (by rw [q]; simp))
/-- a value at a name -/
def DE (W : Wd) (H : Hp) (v : V) : D → Prop
  | .dat d => Dv W.im H v d
  | .ref i => ∃ a, W.eta[i]? = some a ∧ v = .ref a
  | .newL _ => False
  | .newD _ _ => False
/-- a value of an expression that was begun at H0 -/
def DR (H0 : Hp) (W : Wd) (H : Hp) (v : V) : D → Prop
  | .dat d => Dv W.im H v d
  | .ref i => ∃ a, W.eta[i]? = some a ∧ v = .ref a
  | .newL xs => ∃ p vs, v = .ref p ∧ H p = some (.lst vs) ∧ Loose W H p ∧ H0 p = none ∧ DvAll W.im H vs xs
  | .newD t kvs => ∃ p, v = .ref p ∧ Loose W H p ∧ H0 p = none ∧ DictOk W.im H p t kvs
theorem DictOk.mono {I I' : Addr → Prop} {a : Addr} {t : Bool} {kvs : List (PyData × PyData)} (hi : ∀ a, I a → I' a) (hh : ∀ a o, I a → H a = some o → H' a = some o) (ha : ∀ o, H a = some o → H' a = some o) (h : DictOk I H a t kvs) : DictOk I' H' a t kvs := by
  cases t with
  | false =>
    obtain ⟨ks, e, h⟩ := h
    exact ⟨ks, ha _ e, h.mono hi hh⟩
  | true =>
    obtain ⟨ks, e, h⟩ := h
    exact ⟨ks, ha _ e, h.mono hi hh⟩
theorem DE.mono (x : Ext W H W' H') {v : V} : ∀ {d : D}, DE W H v d → DE W' H' v d
  | .dat _, h => x.dv h
  | .ref _, ⟨a, h, e⟩ => ⟨a, x.at h, e⟩
theorem DE.dr {H0 : Hp} {v : V} : ∀ {d : D}, DE W H v d → DR H0 W H v d
  | .dat _, h => h
  | .ref _, h => h
theorem DR.mono {H0 : Hp} (x : Ext W H W' H') {v : V} : ∀ {d : D}, DR H0 W H v d → DR H0 W' H' v d
  | .dat _, h => x.dv h
  | .ref _, ⟨a, h, e⟩ => ⟨a, x.at h, e⟩
  | .newL _, ⟨p, vs, e, h, l, n, r⟩ => ⟨p, vs, e, x.keepL l h, x.loose l, n, x.all r⟩
  | .newD _ _, ⟨p, e, l, n, r⟩ => ⟨p, e, x.loose l, n, r.mono x.im (fun a o i e => x.frm a o e (.inr i)) fun o e => x.keepL l e⟩
theorem DR.base {H0 H1 : Hp} (x : ∀ p, H0 p = none → H1 p = none) {v : V} : ∀ {d : D}, DR H0 W H v d → DR H1 W H v d
  | .dat _, h => h
  | .ref _, h => h
  | .newL _, ⟨p, vs, e, h, l, n, r⟩ => ⟨p, vs, e, h, l, x p n, r⟩
  | .newD _ _, ⟨p, e, l, n, r⟩ => ⟨p, e, l, x p n, r⟩
def EnvR (W : Wd) (H : Hp) (ρ : Env) (σ : L2.St) : Prop := ρ.length = σ.length ∧ ∀ (i : Nat) (d : D), ρ[i]? = some (some d) → ∃ v, σ[i]? = some (some v) ∧ DE W H v d
theorem EnvR.mono (x : Ext W H W' H') {ρ : Env} {σ : L2.St} (h : EnvR W H ρ σ) : EnvR W' H' ρ σ := ⟨h.1, fun i d e => let ⟨v, e', r⟩ := h.2 i d e; ⟨v, e', r.mono x⟩⟩
theorem EnvR.set {ρ : Env} {σ : L2.St} (h : EnvR W H ρ σ) {v : V} {d : D} (r : DE W H v d) (i : Nat) : EnvR W H (ρ.set i (some d)) (σ.set i (some v)) := by
  refine ⟨by rw [List.length_set, List.length_set, h.1], fun j e hj => ?_⟩
  by_cases hij : i = j
  · subst hij
    by_cases hl : i < ρ.length
    · rw [List.getElem?_set_self hl] at hj
      cases hj
      exact ⟨v, List.getElem?_set_self (by rw [← h.1]; exact hl), r⟩
    · rw [List.getElem?_eq_none (by rw [List.length_set]; omega)] at hj
      cases hj
  · rw [List.getElem?_set_ne hij] at hj
    rw [List.getElem?_set_ne hij]
    exact h.2 j e hj
theorem EnvR.unset {ρ : Env} {σ : L2.St} (h : EnvR W H ρ σ) (i : Nat) : EnvR W H (ρ.set i none) (σ.set i none) := by
  refine ⟨by rw [List.length_set, List.length_set, h.1], fun j e hj => ?_⟩
  by_cases hij : i = j
  · subst hij
    by_cases hl : i < ρ.length
    · rw [List.getElem?_set_self hl] at hj
      cases hj
    · rw [List.getElem?_eq_none (by rw [List.length_set]; omega)] at hj
      cases hj
  · rw [List.getElem?_set_ne hij] at hj
    rw [List.getElem?_set_ne hij]
    exact h.2 j e hj
theorem EnvR.wipe {ρ : Env} {σ : L2.St} (h : EnvR W H ρ σ) : ∀ vs, EnvR W H (wipeE ρ vs) (L2.wipe σ vs)
  | [] => h
  | v :: vs => (EnvR.wipe h vs).unset v
end

/-! ### moves of the world -/
section
variable {W W0 : Wd} {H H0 : Hp} {st : Store}
def Wd.addI (W : Wd) (p : Addr) : Wd := ⟨W.eta, fun a => a = p ∨ W.im a⟩
def Wd.addE (W : Wd) (p : Addr) : Wd := ⟨W.eta ++ [p], W.im⟩
/-- a fresh object is laid, nobody's yet -/
theorem Ext.lay {p : Addr} {o : HO} (hp : H p = none) : Ext W H W (upd H p o) where
  pre := ⟨[], by simp⟩
  im := fun _ h => h
  frm := fun a u e _ => by rw [upd_ne (ne_of_none e hp)]; exact e
  newI := fun _ h => .inl h
  newE := fun _ h => .inl h
  dom := fun a h => by
    by_cases q : a = p
    · subst q; rw [upd_same]; simp
    · rw [upd_ne q]; exact h
theorem Gd.notI (g : Gd W st H) {p : Addr} (hp : H p = none) : ¬ W.im p := fun z => g.imm p z hp
theorem Gd.notE (g : Gd W st H) {p : Addr} (hp : H p = none) : p ∉ W.eta := fun z => g.tr p z hp
theorem CellOk.mono {W' : Wd} {H' : Hp} {a : Addr} {c : Cell} (hi : ∀ a, W.im a → W'.im a) (hh : ∀ a o, W.im a → H a = some o → H' a = some o) (ha : ∀ o, H a = some o → H' a = some o) (hn : ¬ W.im a → ¬ W'.im a) (h : CellOk W H a c) : CellOk W' H' a c := by
  cases c with
  | lst xs =>
    obtain ⟨n, vs, e, r⟩ := h
    exact ⟨hn n, vs, ha _ e, r.mono hi hh⟩
  | dct t kvs =>
    obtain ⟨n, r⟩ := h
    exact ⟨hn n, r.mono hi hh ha⟩
  | dead => trivial
theorem Gd.lay (g : Gd W st H) {p : Addr} {o : HO} (hp : H p = none) : Gd W st (upd H p o) where
  len := g.len
  nd := g.nd
  cells := fun i c a e1 e2 => (g.cells i c a e1 e2).mono (fun _ h => h) (fun b u _ e => by rw [upd_ne (ne_of_none e hp)]; exact e) (fun u e => by rw [upd_ne (ne_of_none e hp)]; exact e) fun h => h
  imm := fun a h => (Ext.lay (W := W) hp).dom a (g.imm a h)
  tr := fun a h => (Ext.lay (W := W) hp).dom a (g.tr a h)
theorem Loose.lay (g : Gd W st H) {p : Addr} {o : HO} (hp : H p = none) : Loose W (upd H p o) p := ⟨by rw [upd_same]; simp, g.notI hp, g.notE hp⟩
/-- what is loose becomes data -/
theorem Ext.own {p : Addr} (x : Ext W0 H0 W H) (n : H0 p = none) : Ext W0 H0 (W.addI p) H where
  pre := x.pre
  im := fun a h => .inr (x.im a h)
  frm := x.frm
  newI := fun a h => by
    rcases h with h | h
    · subst h; exact .inr (.inl n)
    · exact x.newI a h
  newE := x.newE
  dom := x.dom
theorem Gd.own (g : Gd W st H) {p : Addr} (l : Loose W H p) : Gd (W.addI p) st H where
  len := g.len
  nd := g.nd
  cells := fun i c a e1 e2 => (g.cells i c a e1 e2).mono (fun _ h => .inr h) (fun b u _ e => e) (fun u e => e) fun h => fun z => by
    rcases z with z | z
    · subst z; exact l.2.2 (List.mem_of_getElem? e2)
    · exact h z
  imm := fun a h => by
    rcases h with h | h
    · subst h; exact l.1
    · exact g.imm a h
  tr := g.tr
theorem Dv.own {p : Addr} {v : V} {d : PyData} (h : Dv W.im H v d) : Dv (W.addI p).im H v d := h.mono (fun _ h => .inr h) fun _ _ _ e => e
theorem DvAll.own {p : Addr} {v : List V} {d : List PyData} (h : DvAll W.im H v d) : DvAll (W.addI p).im H v d := h.mono (fun _ h => .inr h) fun _ _ _ e => e
theorem DE.own {p : Addr} {v : V} : ∀ {d : D}, DE W H v d → DE (W.addI p) H v d
  | .dat _, h => Dv.own h
  | .ref _, h => h
theorem EnvR.own {p : Addr} {ρ : Env} {σ : L2.St} (h : EnvR W H ρ σ) : EnvR (W.addI p) H ρ σ := ⟨h.1, fun i d e => let ⟨v, e', r⟩ := h.2 i d e; ⟨v, e', r.own⟩⟩
/-- what is loose becomes a cell -/
theorem Ext.cell {p : Addr} (x : Ext W0 H0 W H) (n : H0 p = none) : Ext W0 H0 (W.addE p) H where
  pre := by
    obtain ⟨t, e⟩ := x.pre
    exact ⟨t ++ [p], by show W.eta ++ [p] = _; rw [e, List.append_assoc]⟩
  im := x.im
  frm := x.frm
  newI := x.newI
  newE := fun a h => by
    rcases List.mem_append.mp h with h | h
    · exact x.newE a h
    · rw [List.mem_singleton] at h; subst h; exact .inr n
  dom := x.dom
theorem Gd.cell (g : Gd W st H) {p : Addr} (l : Loose W H p) {c : Cell} (hc : CellOk W H p c) : Gd (W.addE p) (st ++ [c]) H where
  len := by
    show (W.eta ++ [p]).length = _
    rw [List.length_append, List.length_append, g.len] <;> rfl
  nd := by
    show (W.eta ++ [p]).Nodup
    rw [List.nodup_append]
    refine ⟨g.nd, by simp, fun a ha b hb e => ?_⟩
    rw [List.mem_singleton] at hb
    subst hb
    exact l.2.2 (e ▸ ha)
  cells := fun i d a e1 e2 => by
    have e2 : (W.eta ++ [p])[i]? = some a := e2
    by_cases hi : i < st.length
    · rw [List.getElem?_append_left hi] at e1
      rw [List.getElem?_append_left (by rw [g.len]; exact hi)] at e2
      exact (g.cells i d a e1 e2).mono (fun _ h => h) (fun _ _ _ e => e) (fun _ e => e) fun h => h
    · rw [List.getElem?_append_right (by omega)] at e1
      rw [List.getElem?_append_right (by rw [g.len]; omega), g.len] at e2
      cases q : i - st.length with
      | zero =>
        rw [q] at e1 e2
        cases e1
        cases e2
        exact hc.mono (fun _ h => h) (fun _ _ _ e => e) (fun _ e => e) fun h => h
      | succ n =>
        rw [q] at e1
        simp at e1
  imm := g.imm
  tr := fun a h => by
    rcases List.mem_append.mp h with h | h
    · exact g.tr a h
    · rw [List.mem_singleton] at h; subst h; exact l.1
/-- a cell is written -/
theorem Gd.live (g : Gd W st H) {i : Nat} {xs : List PyData} {a : Addr} (e : st[i]? = some (.lst xs)) (h : W.eta[i]? = some a) : ¬ W.im a ∧ ∃ vs, H a = some (.lst vs) ∧ DvAll W.im H vs xs := g.cells i _ a e h
theorem Ext.write {a : Addr} {o : HO} (x : Ext W0 H0 W H) (h : a ∈ W.eta) (n : ¬ W.im a) : Ext W0 H0 W (upd H a o) where
  pre := x.pre
  im := x.im
  frm := fun b u e k => by
    have hb : b ≠ a := fun q => by
      subst q
      rcases k with k | k
      · rcases x.newE b h with z | z
        · exact k z
        · rw [e] at z; cases z
      · exact n (x.im b k)
    rw [upd_ne hb]
    exact x.frm b u e k
  newI := x.newI
  newE := x.newE
  dom := fun b h => by
    by_cases q : b = a
    · subst q; rw [upd_same]; simp
    · rw [upd_ne q]; exact x.dom b h
theorem Gd.write (g : Gd W st H) {i : Nat} {a : Addr} {o : HO} {c : Cell} (h : W.eta[i]? = some a) (n : ¬ W.im a) (hc : CellOk W (upd H a o) a c) : Gd W (st.set i c) (upd H a o) where
  len := by rw [List.length_set]; exact g.len
  nd := g.nd
  cells := fun j d b e1 e2 => by
    by_cases q : i = j
    · subst q
      rw [h] at e2
      cases e2
      by_cases hi : i < st.length
      · rw [List.getElem?_set_self hi] at e1
        cases e1
        exact hc
      · rw [List.getElem?_eq_none (by rw [List.length_set]; omega)] at e1
        cases e1
    · rw [List.getElem?_set_ne q] at e1
      have hb : b ≠ a := fun z => by
        subst z
        exact q (((List.getElem?_inj (List.getElem?_eq_some_iff.mp h).1 g.nd).mp (h.trans e2.symm)))
      refine (g.cells j d b e1 e2).mono (fun _ h => h) (fun y u k e => ?_) (fun u e => ?_) fun h => h
      · rw [upd_ne (show y ≠ a from fun z => n (by rw [← z]; exact k))]; exact e
      · rw [upd_ne hb]; exact e
  imm := fun b h => by
    by_cases q : b = a
    · subst q; rw [upd_same]; simp
    · rw [upd_ne q]; exact g.imm b h
  tr := fun b h => by
    by_cases q : b = a
    · subst q; rw [upd_same]; simp
    · rw [upd_ne q]; exact g.tr b h
theorem Dv.write {a : Addr} {o : HO} (n : ¬ W.im a) {v : V} {d : PyData} (h : Dv W.im H v d) : Dv W.im (upd H a o) v d := h.mono (fun _ h => h) fun y u k e => by rw [upd_ne (show y ≠ a from fun z => n (by rw [← z]; exact k))]; exact e
theorem DvAll.write {a : Addr} {o : HO} (n : ¬ W.im a) {v : List V} {d : List PyData} (h : DvAll W.im H v d) : DvAll W.im (upd H a o) v d := h.mono (fun _ h => h) fun y u k e => by rw [upd_ne (show y ≠ a from fun z => n (by rw [← z]; exact k))]; exact e
theorem DE.write {a : Addr} {o : HO} (n : ¬ W.im a) {v : V} : ∀ {d : D}, DE W H v d → DE W (upd H a o) v d
  | .dat _, h => Dv.write n h
  | .ref _, h => h
theorem EnvR.write {a : Addr} {o : HO} (n : ¬ W.im a) {ρ : Env} {σ : L2.St} (h : EnvR W H ρ σ) : EnvR W (upd H a o) ρ σ := ⟨h.1, fun i d e => let ⟨v, e', r⟩ := h.2 i d e; ⟨v, e', r.write n⟩⟩
/-- a cell becomes data -/
theorem Ext.still {p : Addr} (x : Ext W0 H0 W H) (h : p ∈ W.eta) : Ext W0 H0 (W.addI p) H where
  pre := x.pre
  im := fun a h => .inr (x.im a h)
  frm := x.frm
  newI := fun a k => by
    rcases k with k | k
    · subst k
      rcases x.newE a h with z | z
      · exact .inr (.inr z)
      · exact .inr (.inl z)
    · exact x.newI a k
  newE := x.newE
  dom := x.dom
theorem Gd.still (g : Gd W st H) {i : Nat} {a : Addr} (h : W.eta[i]? = some a) : Gd (W.addI a) (st.set i .dead) H where
  len := by rw [List.length_set]; exact g.len
  nd := g.nd
  cells := fun j d b e1 e2 => by
    by_cases q : i = j
    · subst q
      by_cases hi : i < st.length
      · rw [List.getElem?_set_self hi] at e1
        cases e1
        trivial
      · rw [List.getElem?_eq_none (by rw [List.length_set]; omega)] at e1
        cases e1
    · rw [List.getElem?_set_ne q] at e1
      have hb : b ≠ a := fun z => by
        subst z
        exact q (((List.getElem?_inj (List.getElem?_eq_some_iff.mp h).1 g.nd).mp (h.trans e2.symm)))
      refine (g.cells j d b e1 e2).mono (fun _ h => .inr h) (fun y u k e => e) (fun u e => e) fun h z => ?_
      rcases z with z | z
      · exact hb z
      · exact h z
  imm := fun b k => by
    rcases k with k | k
    · subst k; exact g.tr b (List.mem_of_getElem? h)
    · exact g.imm b k
  tr := g.tr
end

/-! ### readings by runs -/
/-- from the world W, H (begun at W0, H0) the run comes to an end of which Q is known -/
abbrev FX := Wd → Hp → Exc → Prop
abbrev XAt (Fx : FX) (W0 : Wd) (H0 : Hp) : Exc → Store → Prop := fun x st' => ∀ W' H', Ext W0 H0 W' H' → Gd W' st' H' → Fx W' H' x
def At {α β : Type} (Fx : FX) (W0 : Wd) (H0 : Hp) (R : Hp → Wd → Hp → β → α → Prop) (m : M α) (W : Wd) (H : Hp) (st : Store) (Q : β → Hp → Prop) : Prop :=
  Ext W0 H0 W H ∧ Gd W st H ∧ wp (XAt Fx W0 H0) m st fun a st' => ∀ W' H' b, Ext W0 H0 W' H' → Gd W' st' H' → R H0 W' H' b a → Q b H'
def rG {α β : Type} (Ef : L2.St → FX) (R : Hp → Wd → Hp → β → α → Prop) (m : Env → M α) : L2.St → Hp → (β → Hp → Prop) → Prop := fun σ H Q =>
  ∃ W ρ st, EnvR W H ρ σ ∧ At (Ef σ) W H R (m ρ) W H st Q
abbrev REq {α : Type} : Hp → Wd → Hp → α → α → Prop := fun _ _ _ b a => b = a
abbrev RLst : Hp → Wd → Hp → List V → List PyData → Prop := fun _ W H vs ds => DvAll W.im H vs ds
section
variable {Fx : FX} {α β γ δ : Type} {W0 W : Wd} {H0 H : Hp} {R : Hp → Wd → Hp → β → α → Prop} {R1 : Hp → Wd → Hp → δ → γ → Prop} {st : Store} {Q Q' : β → Hp → Prop}
theorem At.mono {m : M α} (h : At Fx W0 H0 R m W H st Q) (i : ∀ b H', Q b H' → Q' b H') : At Fx W0 H0 R m W H st Q' := ⟨h.1, h.2.1, wp_mono h.2.2 fun _ _ k W' H' b x g r => i _ _ (k W' H' b x g r)⟩
theorem At.anyX {m : M α} (h : At (fun _ _ _ => False) W0 H0 R m W H st Q) : At Fx W0 H0 R m W H st Q := ⟨h.1, h.2.1, wp_mono2 h.2.2 (fun _ _ z => z) fun _ _ z W' H' x g => (z W' H' x g).elim⟩
theorem At.bind {m : M γ} {k : γ → M α} (h : At Fx W0 H0 R (m >>= k) W H st Q) : At Fx W H R1 m W H st fun b H1 => ∃ a W1 st1, Ext W H W1 H1 ∧ R1 H W1 H1 b a ∧ At Fx W0 H0 R (k a) W1 H1 st1 Q := by
  obtain ⟨x, g, w⟩ := h
  rw [wp_bind] at w
  exact ⟨.refl, g, wp_mono2 w (fun a s w' W' H' b x' g' r => ⟨a, W', s, x', r, x.trans x', g', w'⟩) fun e s w' W' H' x' g' => w' W' H' (x.trans x') g'⟩
theorem At.pure {a : α} (h : At Fx W0 H0 R (pure a) W H st Q) : ∀ W' H' b, Ext W0 H0 W' H' → Gd W' st H' → R H0 W' H' b a → Q b H' := h.2.2
theorem At.ofO {o : Option γ} {k : γ → M α} (h : At Fx W0 H0 R (ofO o >>= k) W H st Q) : ∃ a, o = some a ∧ At Fx W0 H0 R (k a) W H st Q := by
  obtain ⟨x, g, w⟩ := h
  rw [wp_bind, wp_ofO] at w
  obtain ⟨a, e, w⟩ := w
  exact ⟨a, e, x, g, w⟩
theorem At.ofO' {o : Option α} (h : At Fx W0 H0 R (MP.ofO o) W H st Q) : ∃ a, o = some a ∧ At Fx W0 H0 R (Pure.pure a) W H st Q := by
  obtain ⟨x, g, w⟩ := h
  rw [wp_ofO] at w
  obtain ⟨a, e, w⟩ := w
  exact ⟨a, e, x, g, w⟩
theorem At.guard {b : Bool} {k : Unit → M α} (h : At Fx W0 H0 R (guardB b >>= k) W H st Q) : b = true ∧ At Fx W0 H0 R (k ()) W H st Q := by
  obtain ⟨x, g, w⟩ := h
  rw [wp_bind, wp_guard] at w
  exact ⟨w.1, x, g, w.2⟩
theorem At.fail (h : At Fx W0 H0 R fail W H st Q) : False := h.2.2
theorem At.pureB {a : γ} {k : γ → M α} (h : At Fx W0 H0 R (Pure.pure a >>= k) W H st Q) : At Fx W0 H0 R (k a) W H st Q := h
/-- what a look shows, at this moment -/
def Vw (W : Wd) (H : Hp) (v : V) (d : PyData) : Prop := match d with
  | .list ds => ∃ a vs, v = .ref a ∧ Rd H a (.lst vs) ∧ DvAll W.im H vs ds
  | d => Dv W.im H v d
theorem Vw.of {v : V} {d : PyData} (h : Dv W.im H v d) : Vw W H v d := by
  cases d with
  | list ds =>
    cases h with
    | lst i r q => exact ⟨_, _, rfl, r, q⟩
  | _ => exact h
theorem Vw.dp (K : PySem.W.Frag) {v : V} {d : PyData} (h : Vw W H v d) (p : d.plain = true) : Dp K H v d := by
  cases d with
  | list ds =>
    obtain ⟨a, vs, e, r, q⟩ := h
    subst e
    exact .lst (.inl r) (q.dp K (by simpa only [PyData.plain] using p))
  | _ => exact Dv.dp K h p
theorem At.look {d : D} {v : V} {k : PyData → M α} {H9 : Hp} (h : At Fx W0 H0 R (look d >>= k) W H st Q) (r : DR H9 W H v d) : ∃ u, Vw W H v u ∧ At Fx W0 H0 R (k u) W H st Q := by
  obtain ⟨x, g, w⟩ := h
  rw [wp_bind] at w
  cases d with
  | dat d => exact ⟨d, .of r, x, g, w⟩
  | newL xs =>
    obtain ⟨p, vs, e, h, _, _, q⟩ := r
    exact ⟨.list xs, ⟨p, vs, e, .inl h, q⟩, x, g, w⟩
  | newD t kvs => exact w.elim
  | ref i =>
    obtain ⟨a, ha, e⟩ := r
    obtain ⟨xs, hx, w⟩ := wp_lookR.mp w
    obtain ⟨n, vs, hv, q⟩ := g.live hx ha
    exact ⟨.list xs, ⟨a, vs, e, .inl hv, q⟩, x, g, w⟩
end
end MP
end MRel

section MVal
set_option Elab.async false
set_option linter.all false
set_option maxRecDepth 100000
set_option autoImplicit false
set_option maxHeartbeats 1000000
/-! MVal: the operations by values: what the machine does on values that lie as MPy's data do. -/
namespace MP
open PySem PySem.Spec PyProof.Rows L2

theorem lim_eq : LIM = sizeLine := by rw [sizeLine_eq]
section
variable {W0 W : Wd} {H0 H : Hp} {st : Store}
/-- the world as it is, at a value's end -/
structure Now (W0 : Wd) (H0 : Hp) (W : Wd) (st : Store) (H : Hp) : Prop where
  x : Ext W0 H0 W H
  g : Gd W st H
/-- all that may be wished of a value -/
def Fin (W0 : Wd) (H0 : Hp) (st : Store) (d : D) (Q : V → Hp → Prop) : Prop := ∀ W' H' z, Ext W0 H0 W' H' → Gd W' st H' → DR H0 W' H' z d → Q z H'
theorem Fin.here {d : D} {Q : V → Hp → Prop} (f : Fin W0 H0 st d Q) (n : Now W0 H0 W st H) {z : V} (r : DR H0 W H z d) : Q z H := f W H z n.x n.g r
theorem Fin.tup {ds : List PyData} {Q : V → Hp → Prop} (f : Fin W0 H0 st (.dat (.tuple ds)) Q) (n : Now W0 H0 W st H) {vs : List V} (r : DvAll W.im H vs ds) {p : Addr} (hp : H p = none) : Q (.ref p) (upd H p (.tup vs)) := by
  have x := n.x.trans (Ext.lay (W := W) (o := .tup vs) hp)
  have g := n.g.lay (o := .tup vs) hp
  have l := Loose.lay n.g (o := .tup vs) hp
  have r' : DvAll (W.addI p).im (upd H p (.tup vs)) vs ds := ((Ext.lay (W := W) (o := .tup vs) hp).all r).own
  exact f (W.addI p) _ _ (x.own (n.x.fresh hp)) (g.own l) (.tup (.inl rfl) (.inl upd_same) r')
theorem Fin.lst {ds : List PyData} {Q : V → Hp → Prop} (f : Fin W0 H0 st (.newL ds) Q) (n : Now W0 H0 W st H) {vs : List V} (r : DvAll W.im H vs ds) {p : Addr} (hp : H p = none) : Q (.ref p) (upd H p (.lst vs)) :=
  f W _ _ (n.x.trans (Ext.lay hp)) (n.g.lay hp) ⟨p, vs, rfl, upd_same, Loose.lay n.g hp, n.x.fresh hp, (Ext.lay hp).all r⟩
theorem Vw.int {v : V} {i : Int} (h : Vw W H v (.int i)) : v = .int i := by cases (show Dv W.im H v (.int i) from h); rfl
theorem Vw.bool {v : V} {i : Bool} (h : Vw W H v (.bool i)) : v = .bl i := by cases (show Dv W.im H v (.bool i) from h); rfl
theorem Vw.str {v : V} {i : Str} (h : Vw W H v (.str i)) : v = .str i := by cases (show Dv W.im H v (.str i) from h); rfl
theorem Vw.none {v : V} (h : Vw W H v .none) : v = .non := by cases (show Dv W.im H v .none from h); rfl
theorem Vw.tup {v : V} {ds : List PyData} (h : Vw W H v (.tuple ds)) : ∃ a vs, v = .ref a ∧ Rd H a (.tup vs) ∧ DvAll W.im H vs ds := by
  cases (show Dv W.im H v (.tuple ds) from h) with
  | tup i r q => exact ⟨_, _, rfl, r, q⟩
end

/-! ### two values -/
def rV2 (f : PyData → PyData → Option D) : R2 := fun x y H Q => ∃ W0 H0 W st u v d, Now W0 H0 W st H ∧ Vw W H x u ∧ Vw W H y v ∧ f u v = some d ∧ Fin W0 H0 st d Q
theorem rV2.of_at {Fx : FX} {f : PyData → PyData → Option D} {W0 W : Wd} {H0 H H1 H2 : Hp} {st : Store} {Q : V → Hp → Prop} {d1 d2 : D} {x y : V}
    (h : At Fx W0 H0 DR (do
      let u ← look d1
      let v ← look d2
      ofO (f u v)) W H st Q) (r1 : DR H1 W H x d1) (r2 : DR H2 W H y d2) : rV2 f x y H Q := by
  obtain ⟨u, hu, h⟩ := h.look r1
  obtain ⟨v, hv, h⟩ := h.look r2
  obtain ⟨d, e, h⟩ := h.ofO'
  exact ⟨W0, H0, W, st, u, v, d, ⟨h.1, h.2.1⟩, hu, hv, e, h.pure⟩
def bopOp : Bop → Operator
  | .add => .Add
  | .sub => .Sub
  | .mul => .Mult
  | .fdiv => .FloorDiv
  | .mod => .Mod
  | .pow => .Pow
section
variable {X : Cx}
theorem rd_lst {pins : List (Addr × Obj)} {s : Shared} {σ : L2.St} {H : Hp} (I : Inv X pins σ H s) {a : Addr} {vs : List V} (r : Rd H a (.lst vs)) :
    ∃ (its : List Value) (n : Nat), Vals vs its ∧ vs.length = its.length ∧ s.heap.get? a = some { cls := .type "list", data := .seq its.toArray n } ∧ vs.length ≤ sizeLine := by
  obtain ⟨z, its, n, q, e⟩ := r.ok I.hok
  exact ⟨its, n, q, q.length, e, z⟩
/-- lists put behind one another -/
theorem or_catL : OpR X (binaryOp .Add) (fun x y H Q => ∃ a b us vs, x = .ref a ∧ y = .ref b ∧ Rd H a (.lst us) ∧ Rd H b (.lst vs) ∧ us.length + vs.length ≤ sizeLine ∧ ∀ p, H p = none → Q (.ref p) (upd H p (.lst (us ++ vs)))) := by
  intro pins s σ H x y v u Q I rx ry h
  obtain ⟨a, b, us, vs, rfl, rfl, ra, rb, hz, q⟩ := h
  cases rx
  cases ry
  obtain ⟨i1, n1, r1, l1, e1, _⟩ := rd_lst I ra
  obtain ⟨i2, n2, r2, l2, e2, _⟩ := rd_lst I rb
  refine PySem.P.add_list e1 e2 ?_ (by simp only [List.size_toArray]; omega)
  rw [show i1.toArray ++ i2.toArray = (i1 ++ i2).toArray by simp]
  exact ⟨.ref _, _, I.lnew (t' := s.toks) (r1.append r2) (by simp only [List.length_append]; exact hz), rfl, q _ I.fresh⟩
theorem tuple_mul_same (l : Addr) (items : Array Value) (n : Nat) (dd : Option Addr) (sl : Array (Option Value)) (x : Int) (u : Tok) (c0 : (decide (x < -(2 ^ 63)) || decide (x ≥ 2 ^ 63)) = false) (c1 : (items.isEmpty || x == 1) = true) :
    Meets (Builtin.«tuple.__mul__» ⟨[.ref l, .int x u], []⟩) (fun _ R s => s.heap.get? l = some { cls := .type "tuple", dict := dd, data := .seq items n, slots := sl } ∧ R (.ok (.ret (Value.ref l))) s) :=
  .of_wp fun prog w A R s h => by
    obtain ⟨hp, g, d, tk, os⟩ := s
    obtain ⟨hl, h⟩ := h
    have f1 := AutoSeq1.idx_int
    wp_walk using PySem.AutoSeq1.wpAny_loadPart' hl
    repeat (first
      | (refine wpAny_ite_false (decide_eq_false (by rw [c0]; exact Bool.false_ne_true)) ?_; wp_walk using PySem.AutoSeq1.wpAny_loadPart' hl)
      | (refine wpAny_ite_true (decide_eq_true (by rw [c1])) ?_; wp_walk using PySem.AutoSeq1.wpAny_loadPart' hl))
    all_goals exact ⟨_, rfl, h⟩
theorem tuple_mul_none (l : Addr) (items : Array Value) (n : Nat) (dd : Option Addr) (sl : Array (Option Value)) (x : Int) (u : Tok) (c0 : (decide (x < -(2 ^ 63)) || decide (x ≥ 2 ^ 63)) = false) (c1 : (items.isEmpty || x == 1) = false)
    (c2 : (decide (x ≤ 0) || items.isEmpty) = true) :
    Meets (Builtin.«tuple.__mul__» ⟨[.ref l, .int x u], []⟩) (fun _ R s => s.heap.get? l = some { cls := .type "tuple", dict := dd, data := .seq items n, slots := sl } ∧
      R (.ok (.ret (Value.ref s.heap.objs.size))) { s with heap := s.heap.push { cls := Value.type "tuple", data := Data.seq #[] }, toks := s.toks }) :=
  .of_wp fun prog w A R s h => by
    obtain ⟨hp, g, d, tk, os⟩ := s
    obtain ⟨hl, h⟩ := h
    have f1 := AutoSeq1.idx_int
    wp_walk using PySem.AutoSeq1.wpAny_loadPart' hl
    repeat (first
      | (refine wpAny_ite_false (decide_eq_false (by rw [c0]; exact Bool.false_ne_true)) ?_; wp_walk using PySem.AutoSeq1.wpAny_loadPart' hl)
      | (refine wpAny_ite_false (decide_eq_false (by rw [c1]; exact Bool.false_ne_true)) ?_; wp_walk using PySem.AutoSeq1.wpAny_loadPart' hl)
      | (refine wpAny_ite_true (decide_eq_true (by rw [c2])) ?_; wp_walk using PySem.AutoSeq1.wpAny_loadPart' hl))
    all_goals exact ⟨_, rfl, h⟩
/-- a tuple times an int -/
theorem or_mulT : OpR X (binaryOp .Mult) (fun x y H Q => ∃ l k us, x = .ref l ∧ y = .int k ∧ Rd H l (.tup us) ∧ -1000 ≤ k ∧ k ≤ 1000 ∧ us.length ≤ 1000 ∧ ((us = [] ∨ k = 1) → Q (.ref l) H) ∧
    (us ≠ [] → k ≠ 1 → ∀ p, H p = none → Q (.ref p) (upd H p (.tup (List.replicate k.toNat us).flatten)))) := by
  intro pins s σ H x y v u Q I rx ry h
  obtain ⟨l, k, us, rfl, rfl, hT, h1, h2, hz, q1, q2⟩ := h
  by_cases hs : us = [] ∨ k = 1
  · cases rx
    obtain ⟨t, rfl⟩ := ry
    obtain ⟨its, r, ⟨⟨cls, dd, data, sl⟩, ho, hc, n, hd⟩, _⟩ := I.tuple (.inl hT)
    simp only at hc hd
    subst hc hd
    have c0 : (decide (k < -(2 ^ 63)) || decide (k ≥ 2 ^ 63)) = false := by
      rw [decide_eq_false (by omega), decide_eq_false (by omega)] <;> rfl
    have c1 : (its.toArray.isEmpty || k == 1) = true := by
      rcases hs with e | e
      · subst e
        cases r
        rfl
      · subst e
        simp
    exact wpAny_binaryOp_repeat_ref (T := "tuple") (U := "int") (by decide) ⟨_, ho, rfl⟩ (fun s' => typeIs_int s' k t) noFill_tuple_mul F.fills_int_mul F.slot_int_rmul repeat_tuple F.slot_int_index.lookup
      (call_meets F.slot_int_rmul (typeIs_int s k t) F.entry_int_rmul (F.args_int_rmul_2 _ _) (int_rmul_tuple k t l its.toArray n dd sl)
        ⟨ho, rfl, ⟨_, ho, rfl⟩, call_meets F.slot_tuple_mul ⟨_, ho, rfl⟩ F.entry_tuple_mul (F.args_tuple_mul_2 _ _) (tuple_mul_same l its.toArray n dd sl k t c0 c1) ⟨ho, ⟨.ref l, H, I, rfl, q1 hs⟩⟩⟩)
  · have n1 : us ≠ [] := fun e => hs (.inl e)
    have n2 : k ≠ 1 := fun e => hs (.inr e)
    by_cases h3 : 2 ≤ k
    · exact op_repT pins s σ H _ _ v u Q I rx ry ⟨l, k, us, rfl, rfl, .inl hT, n1, h3, h2, hz, q2 n1 n2⟩
    · cases rx
      obtain ⟨t, rfl⟩ := ry
      obtain ⟨its, r, ⟨⟨cls, dd, data, sl⟩, ho, hc, n, hd⟩, _⟩ := I.tuple (.inl hT)
      simp only at hc hd
      subst hc hd
      have hk0 : k ≤ 0 := by omega
      have c0 : (decide (k < -(2 ^ 63)) || decide (k ≥ 2 ^ 63)) = false := by
        rw [decide_eq_false (by omega), decide_eq_false (by omega)] <;> rfl
      have c1 : (its.toArray.isEmpty || k == 1) = false := by
        cases r with
        | nil => exact absurd rfl n1
        | cons _ _ =>
          rw [Bool.or_eq_false_iff]
          exact ⟨by simp, beq_eq_false_iff_ne.mpr n2⟩
      have c2 : (decide (k ≤ 0) || its.toArray.isEmpty) = true := by rw [decide_eq_true hk0, Bool.true_or]
      have e0 : (List.replicate k.toNat us).flatten = [] := by rw [show k.toNat = 0 by omega]; rfl
      have q := q2 n1 n2 _ (I.hok.fresh (Nat.le_refl _))
      rw [e0] at q
      refine wpAny_binaryOp_repeat_ref (T := "tuple") (U := "int") (by decide) ⟨_, ho, rfl⟩ (fun s' => typeIs_int s' k t) noFill_tuple_mul F.fills_int_mul F.slot_int_rmul repeat_tuple F.slot_int_index.lookup
        (call_meets F.slot_int_rmul (typeIs_int s k t) F.entry_int_rmul (F.args_int_rmul_2 _ _) (int_rmul_tuple k t l its.toArray n dd sl)
          ⟨ho, rfl, ⟨_, ho, rfl⟩, call_meets F.slot_tuple_mul ⟨_, ho, rfl⟩ F.entry_tuple_mul (F.args_tuple_mul_2 _ _) (tuple_mul_none l its.toArray n dd sl k t c0 c1 c2) ⟨ho, ?_⟩⟩)
      refine ⟨.ref s.heap.objs.size, _, I.laid (t' := s.toks) (o := .tup []) (fun b ob q => Heap.get?_push_of_some _ q) (Nat.le_refl _) ⟨Nat.zero_le _, [], .nil, IsTup.new _ _⟩, rfl, q⟩
/-- a list times an int -/
theorem or_mulL : OpR X (binaryOp .Mult) (fun x y H Q => ∃ l k us, x = .ref l ∧ y = .int k ∧ Rd H l (.lst us) ∧ -1000 ≤ k ∧ k ≤ 100000 ∧ us.length * k.toNat ≤ sizeLine ∧
    ∀ p, H p = none → Q (.ref p) (upd H p (.lst (List.replicate k.toNat us).flatten))) := by
  intro pins s σ H x y v u Q I rx ry h
  obtain ⟨l, k, us, rfl, rfl, hL, h1, h2, hz, q⟩ := h
  cases rx
  obtain ⟨t, rfl⟩ := ry
  obtain ⟨its, n, r, hl, e, _⟩ := rd_lst I hL
  have m1 : its.toArray.size * k.toNat ≤ sizeLine := by rw [List.size_toArray, ← hl]; exact hz
  have m2 : ¬ its.toArray.size * k.toNat > (2 ^ 63 - 1) / 8 := by
    have : (sizeLine : Nat) ≤ (2 ^ 63 - 1) / 8 := by decide
    omega
  have m3 : ¬ (!Builtin.List.listFitsIndex k) = true := by
    rw [fitsIndex_both (by omega) (by omega)]
    exact Bool.false_ne_true
  have m4 : ¬ Builtin.List.listTooLong (its.toArray.size * k.toNat) = true := by
    rw [notLongL m1]
    exact Bool.false_ne_true
  have m5 : List.foldl (fun x1 x2 => x1 ++ x2) #[] (List.replicate (if its.toArray.isEmpty = true then 0 else k.toNat) its.toArray) = (List.replicate k.toNat its).flatten.toArray := by
    have f0 : ∀ m : Nat, List.foldl (fun x1 x2 => x1 ++ x2) #[] (List.replicate m its.toArray) = (List.replicate m its).flatten.toArray := fun m => by
      have z := foldl_rep its m []
      rw [List.nil_append] at z
      exact z
    rw [f0]
    cases its with
    | nil => simp
    | cons a r' => rw [if_neg (by simp)]
  refine wpAny_binaryOp_repeat_ref (T := "list") (U := "int") (by decide) ⟨_, e, rfl⟩ (fun s' => typeIs_int s' k t) noFill_list_mul F.fills_int_mul F.slot_int_rmul repeat_list F.slot_int_index.lookup
    (call_meets F.slot_int_rmul (typeIs_int s k t) F.entry_int_rmul (F.args_int_rmul_2 _ _) (int___rmul___int_list k t l its.toArray n)
      ⟨e, rfl, ⟨_, e, rfl⟩, call_meets F.slot_list_mul ⟨_, e, rfl⟩ F.entry_list_mul (F.args_list_mul_2 _ _) (AutoListH.list___mul___list_int_3 l its.toArray n k t m3 m2 m4) ⟨e, ?_⟩⟩)
  rw [m5]
  exact ⟨.ref _, _, I.lnew (t' := s.toks) (r.rep k.toNat) (by rw [PyProof.Rows.lm_len_rep_flat, Nat.mul_comm]; exact hz), rfl, q _ I.fresh⟩
theorem ifS {α : Type} {c : Prop} [Decidable c] {x : Option α} {z : α} (h : (if c then x else none) = some z) : c ∧ x = some z := by
  by_cases q : c
  · rw [if_pos q] at h; exact ⟨q, h⟩
  · rw [if_neg q] at h; cases h
/-- the binary operators -/
theorem or_bop (op : Bop) : OpR X (binaryOp (bopOp op)) (rV2 (bopV op)) := by
  intro pins s σ H x y v u Q I rx ry h
  obtain ⟨W0, H0, W, st, d1, d2, d, n, v1, v2, e, f⟩ := h
  have hsz := sizeLine_eq
  cases op with
  | add =>
    have e : addV d1 d2 = some d := by simpa only [bopV] using e
    unfold addV at e
    split at e
    · cases e; cases v1.int; cases v2.int
      exact op_add pins s σ H _ _ v u Q I rx ry ⟨_, _, rfl, rfl, f.here n (.int _)⟩
    · obtain ⟨hc, e⟩ := ifS e
      cases e; cases v1.str; cases v2.str
      exact op_add_str pins s σ H _ _ v u Q I rx ry ⟨_, _, rfl, rfl, by rw [hsz]; exact hc, f.here n (.str _)⟩
    · obtain ⟨hc, e⟩ := ifS e
      cases e
      obtain ⟨a, us, rfl, r1, q1⟩ := v1.tup
      obtain ⟨b, ws, rfl, r2, q2⟩ := v2.tup
      refine op_catA pins s σ H _ _ v u Q I rx ry ⟨a, b, us, ws, rfl, rfl, .inl r1, .inl r2, by rw [hsz, q1.length, q2.length]; exact hc, fun z => ?_, fun z1 z2 => ?_, fun z1 z2 p hp => f.tup n (q1.append q2) hp⟩
      · subst z
        cases q1
        exact f.here n (show Dv W.im H (.ref b) _ from (show Dv W.im H (.ref b) _ from v2))
      · subst z2
        cases q2
        exact f.here n (show Dv W.im H (.ref a) _ by simpa using (show Dv W.im H (.ref a) _ from v1))
    · obtain ⟨hc, e⟩ := ifS e
      cases e
      obtain ⟨a, us, rfl, r1, q1⟩ := v1
      obtain ⟨b, ws, rfl, r2, q2⟩ := v2
      exact or_catL pins s σ H _ _ v u Q I rx ry ⟨a, b, us, ws, rfl, rfl, r1, r2, by rw [hsz, q1.length, q2.length]; exact hc, fun p hp => f.lst n (q1.append q2) hp⟩
    · cases e
  | mul =>
    have e : mulV d1 d2 = some d := by simpa only [bopV] using e
    unfold mulV at e
    split at e
    · obtain ⟨hc, e⟩ := ifS e
      cases e; cases v1.int; cases v2.int
      exact op_mulW pins s σ H _ _ v u Q I rx ry ⟨_, _, rfl, rfl, hc, f.here n (.int _)⟩
    · obtain ⟨⟨h1, h2, h3⟩, e⟩ := ifS e
      cases e
      obtain ⟨a, us, rfl, r1, q1⟩ := v1.tup
      cases v2.int
      refine or_mulT pins s σ H _ _ v u Q I rx ry ⟨a, _, us, rfl, rfl, r1, h1, h2, by rw [q1.length]; exact h3, fun z => ?_, fun z1 z2 p hp => f.tup n (q1.flatRep _) hp⟩
      refine f.here n (show Dv W.im H (.ref a) _ from ?_)
      rcases z with z | z
      · subst z
        cases q1
        have e0 : ∀ m : Nat, (List.replicate m ([] : List PyData)).flatten = [] := fun m => by induction m with
          | zero => rfl
          | succ m ih => rw [List.replicate_succ, List.flatten_cons, ih]; rfl
        rw [e0]
        exact v1
      · subst z
        simpa using (show Dv W.im H (.ref a) _ from v1)
    · obtain ⟨⟨h1, h2, h3⟩, e⟩ := ifS e
      cases e
      obtain ⟨a, us, rfl, r1, q1⟩ := v1
      cases v2.int
      exact or_mulL pins s σ H _ _ v u Q I rx ry ⟨a, _, us, rfl, rfl, r1, h1, h2, by rw [hsz, q1.length]; exact h3, fun p hp => f.lst n (q1.flatRep _) hp⟩
    · cases e
  | sub =>
    have e : subV d1 d2 = some d := by simpa only [bopV] using e
    unfold subV at e
    split at e
    · cases e; cases v1.int; cases v2.int
      exact op_sub pins s σ H _ _ v u Q I rx ry ⟨_, _, rfl, rfl, f.here n (.int _)⟩
    · cases e
  | fdiv =>
    have e : fdivV d1 d2 = some d := by simpa only [bopV] using e
    unfold fdivV at e
    split at e
    · obtain ⟨hc, e⟩ := ifS e
      cases e; cases v1.int; cases v2.int
      exact op_fdivW pins s σ H _ _ v u Q I rx ry ⟨_, _, rfl, rfl, hc, f.here n (.int _)⟩
    · cases e
  | mod =>
    have e : modV d1 d2 = some d := by simpa only [bopV] using e
    unfold modV at e
    split at e
    · obtain ⟨hc, e⟩ := ifS e
      cases e; cases v1.int; cases v2.int
      exact op_mod pins s σ H _ _ v u Q I rx ry ⟨_, _, rfl, rfl, hc, f.here n (.int _)⟩
    · cases e
  | pow =>
    have e : powV d1 d2 = some d := by simpa only [bopV] using e
    unfold powV at e
    split at e
    · obtain ⟨hc, e⟩ := ifS e
      cases e; cases v1.int; cases v2.int
      exact op_pow pins s σ H _ _ v u Q I rx ry ⟨_, _, rfl, rfl, hc, f.here n (.int _)⟩
    · cases e
theorem mapS {α β : Type} {o : Option α} {g : α → β} {d : β} (h : o.map g = some d) : ∃ c, o = some c ∧ d = g c := by
  cases o with
  | none => cases h
  | some c => cases h; exact ⟨c, rfl, rfl⟩
def copOp : Cop → CmpOp
  | .eq => .Eq
  | .ne => .NotEq
  | .lt => .Lt
  | .le => .LtE
  | .gt => .Gt
  | .ge => .GtE
  | .isN => .Is
  | .notN => .IsNot
def bolO (o : Option Bool) : Option D := o.map fun b => .dat (.bool b)
theorem bolO_some {o : Option Bool} {d : D} (h : bolO o = some d) : ∃ b, o = some b ∧ d = .dat (.bool b) := by
  cases o with
  | none => cases h
  | some b => cases h; exact ⟨b, rfl, rfl⟩
theorem Vw.reads {pins : List (Addr × Obj)} {s : Shared} {σ : L2.St} {W : Wd} {H : Hp} (I : Inv X pins σ H s) {x : V} {v : Value} {d : PyData} (h : Vw W H x d) (r : RelV x v) (p : d.plain = true) : ∃ as, Reads s.heap v d as :=
  Dp.reads I d x v (h.dp X.K p) r
theorem isNone_of {W : Wd} {H : Hp} {x : V} {d : PyData} (h : Vw W H x d) : decide (x = .non) = isNone d := by
  cases d with
  | none => cases h.none; rfl
  | bool b => cases h.bool; rfl
  | int b => cases h.int; rfl
  | str b => cases h.str; rfl
  | list ds => obtain ⟨a, vs, rfl, _, _⟩ := h; rfl
  | tuple ds => obtain ⟨a, vs, rfl, _, _⟩ := h.tup; rfl
  | dict kvs =>
    cases (show Dv W.im H x (.dict kvs) from h) <;> rfl
/-- comparisons -/
theorem or_cop (hu : X.A.units + 64 < cLine) (op : Cop) : OpR X (compareOp (copOp op)) (rV2 fun x y => bolO (copV op x y)) := by
  intro pins s σ H x y v u Q I rx ry h
  obtain ⟨W0, H0, W, st, d1, d2, d, n, v1, v2, e, f⟩ := h
  obtain ⟨b, e', rfl⟩ := bolO_some e
  replace e := e'
  clear e'
  have eqs : ∀ p, cmpE p d1 d2 = some b → ∃ as bs, Reads s.heap v d1 as ∧ Reads s.heap u d2 bs ∧ d1.plain = true ∧ d2.plain = true ∧ X.A.units + min d1.depth d2.depth < cLine ∧ b = p (PyData.eqv d1 d2) := fun p e => by
    unfold cmpE at e
    obtain ⟨hc, e⟩ := ifS e
    cases e
    rw [Bool.and_eq_true] at hc
    have p1 := shal_plain _ _ hc.1
    have p2 := shal_plain _ _ hc.2
    have q1 := shal_depth _ _ hc.1
    obtain ⟨as, r1⟩ := v1.reads I rx p1
    obtain ⟨bs, r2⟩ := v2.reads I ry p2
    exact ⟨as, bs, r1, r2, p1, p2, by omega, rfl⟩
  have hint : ∀ p, cmpI p d1 d2 = some b → ∃ i j, x = .int i ∧ y = .int j ∧ b = p i j := fun p e => by
    unfold cmpI at e
    split at e
    · cases e; cases v1.int; cases v2.int; exact ⟨_, _, rfl, rfl, rfl⟩
    · cases e
  have nons : ∀ p, cmpN p d1 d2 = some b → y = .non ∧ b = p (decide (x = .non)) := fun p e => by
    unfold cmpN at e
    split at e
    · cases e; cases v2.none; exact ⟨rfl, by rw [isNone_of v1]⟩
    · cases e
  have q : Q (.bl b) H := f.here n (.bl b)
  have fin : EP X pins σ Q (.bool b) s := ⟨.bl b, H, I, rfl, q⟩
  cases op with
  | eq =>
    obtain ⟨as, bs, r1, r2, p1, p2, hd, eb⟩ := eqs _ (show _ = some b from e)
    exact SeqAt.eq_plain r1 r2 p1 p2 hd (by rw [← show b = PyData.eqv d1 d2 from eb]; exact fin)
  | ne =>
    obtain ⟨as, bs, r1, r2, p1, p2, hd, eb⟩ := eqs _ (show _ = some b from e)
    exact SeqAt.ne_plain r1 r2 p1 p2 hd (by rw [← show b = (!PyData.eqv d1 d2) from eb]; exact fin)
  | lt =>
    obtain ⟨i, j, rfl, rfl, eb⟩ := hint _ (show _ = some b from e)
    exact op_lt pins s σ H _ _ v u Q I rx ry ⟨_, _, rfl, rfl, by subst eb; exact q⟩
  | le =>
    obtain ⟨i, j, rfl, rfl, eb⟩ := hint _ (show _ = some b from e)
    exact op_le pins s σ H _ _ v u Q I rx ry ⟨_, _, rfl, rfl, by subst eb; exact q⟩
  | gt =>
    obtain ⟨i, j, rfl, rfl, eb⟩ := hint _ (show _ = some b from e)
    exact op_gt pins s σ H _ _ v u Q I rx ry ⟨_, _, rfl, rfl, by subst eb; exact q⟩
  | ge =>
    obtain ⟨i, j, rfl, rfl, eb⟩ := hint _ (show _ = some b from e)
    exact op_ge pins s σ H _ _ v u Q I rx ry ⟨_, _, rfl, rfl, by subst eb; exact q⟩
  | isN =>
    obtain ⟨rfl, eb⟩ := nons _ (show _ = some b from e)
    exact op_isN pins s σ H _ _ v u Q I rx ry ⟨rfl, by have eb' : b = decide (x = .non) := eb; subst eb'; exact q⟩
  | notN =>
    obtain ⟨rfl, eb⟩ := nons _ (show _ = some b from e)
    exact op_notN pins s σ H _ _ v u Q I rx ry ⟨rfl, by have eb' : b = (!decide (x = .non)) := eb; subst eb'; exact q⟩
/-- x in xs, x not in xs -/
theorem or_in (hu : X.A.units + 64 < cLine) (ng : Bool) : OpR X (compareOp (if ng then .NotIn else .In)) (rV2 fun x y => bolO ((inV x y).map fun b => if ng then !b else b)) := by
  intro pins s σ H x y v u Q I rx ry h
  obtain ⟨W0, H0, W, st, d1, d2, d, n, v1, v2, e, f⟩ := h
  obtain ⟨b, e', rfl⟩ := bolO_some (show bolO ((inV d1 d2).map fun b => if ng then !b else b) = some d from e)
  replace e := e'
  clear e'
  have q : Q (.bl b) H := f.here n (.bl b)
  have fin : EP X pins σ Q (.bool b) s := ⟨.bl b, H, I, rfl, q⟩
  obtain ⟨c, ec, rfl⟩ := mapS e
  unfold inV at ec
  split at ec
  · rename_i xs
    obtain ⟨hc, ec⟩ := ifS ec
    cases ec
    rw [Bool.and_eq_true] at hc
    have p1 := shal_plain _ _ hc.1
    have p2 := shalAll_plain _ _ hc.2
    have q1 := shal_depth _ _ hc.1
    obtain ⟨as, r1⟩ := v1.reads I rx p1
    obtain ⟨bs, r2⟩ := v2.reads I ry (by simpa only [PyData.plain] using p2)
    cases ng with
    | true => exact SeqAt.notIn_list_data r2 r1 p2 p1 (by omega) fin
    | false => exact SeqAt.in_list_data r2 r1 p2 p1 (by omega) fin
  · rename_i xs
    obtain ⟨hc, ec⟩ := ifS ec
    cases ec
    rw [Bool.and_eq_true] at hc
    have p1 := shal_plain _ _ hc.1
    have p2 := shalAll_plain _ _ hc.2
    have q1 := shal_depth _ _ hc.1
    obtain ⟨as, r1⟩ := v1.reads I rx p1
    obtain ⟨bs, r2⟩ := v2.reads I ry (by simpa only [PyData.plain] using p2)
    cases ng with
    | true => exact SeqAt.notIn_tuple_data r2 r1 p2 p1 (by omega) fin
    | false => exact SeqAt.in_tuple_data r2 r1 p2 p1 (by omega) fin
  · cases ec
/-- an item -/
theorem ixPl_eq (n : Nat) (i : Int) : ixPl n i = ixN n i := rfl
theorem ir_idx : IxR X (rV2 fun x y => (idxV x y).map .dat) := by
  intro value slice pins s σ H x y v u Q I rx ry h hs
  obtain ⟨W0, H0, W, st, d1, d2, d, n, v1, v2, e, f⟩ := h
  obtain ⟨c, ec, rfl⟩ := mapS e
  have key : ∀ {vs : List V} {ds : List PyData} {i : Int}, DvAll W.im H vs ds → ((ixPl ds.length i).bind fun j => ds[j]?) = some c → ∃ z, atI vs i = some z ∧ Dv W.im H z c := fun {vs ds i} r e => by
    obtain ⟨j, e1, e2⟩ := Option.bind_eq_some_iff.mp e
    obtain ⟨z, h1, h2⟩ := r.get e2
    refine ⟨z, ?_, h2⟩
    unfold atI
    rw [r.length, ← ixPl_eq, e1]
    exact h1
  unfold idxV at ec
  split at ec
  · obtain ⟨a, vs, rfl, r, q⟩ := v1
    cases v2.int
    obtain ⟨z, h1, h2⟩ := key q ec
    exact ix_list value slice pins s σ H _ _ v u Q I rx ry ⟨a, vs, _, z, rfl, rfl, .inl r, h1, f.here n h2⟩ hs
  · obtain ⟨a, vs, rfl, r, q⟩ := v1.tup
    cases v2.int
    obtain ⟨z, h1, h2⟩ := key q ec
    exact ix_tup value slice pins s σ H _ _ v u Q I rx ry ⟨a, vs, _, z, rfl, rfl, .inl r, h1, f.here n h2⟩ hs
  · cases ec
/-- a slice -/
def rVS : V → Option Int → Option Int → Hp → VK → Prop := fun x lo hi H Q => ∃ W0 H0 W st u d, Now W0 H0 W st H ∧ Vw W H x u ∧ MP.cutV u lo hi = some d ∧ Fin W0 H0 st d Q
theorem cut_whole {α : Type} (ds : List α) (lo hi : Option Int) (h : HT.sIx ds.length 0 lo = 0 ∧ HT.sIx ds.length ds.length hi = ds.length) : cut ds lo hi = ds := by
  have e : ∀ n d o, HT.sIx n d o = cutIx n d o := fun n d o => by cases o <;> rfl
  unfold cut
  rw [← e, ← e, h.1, h.2, List.drop_zero, Nat.sub_zero, List.take_length]
theorem sr_cut : SlR X rVS := by
  intro pins s σ H x v vl vu lo hi sl Q I rx hs pl pu h
  obtain ⟨W0, H0, W, st, d1, d, n, v1, e, f⟩ := h
  unfold MP.cutV at e
  split at e
  · cases e
    obtain ⟨a, vs, rfl, r, q⟩ := v1
    exact sl_list pins s σ H _ v vl vu lo hi sl Q I rx hs pl pu ⟨a, vs, rfl, .inl r, fun p hp => f.lst n (q.cut lo hi) hp⟩
  · cases e
    obtain ⟨a, vs, rfl, r, q⟩ := v1.tup
    refine sl_tupA pins s σ H _ v vl vu lo hi sl Q I rx hs pl pu ⟨a, vs, rfl, .inl r, fun z => ?_, fun _ p hp => f.tup n (q.cut lo hi) hp⟩
    rw [q.length] at z
    exact f.here n (show Dv W.im H (.ref a) _ by rw [cut_whole _ _ _ z]; exact v1)
  · cases e
/-! ### built-in functions -/
theorem ins_perm (a : Int) : ∀ l : List Int, (ins a l).Perm (a :: l)
  | [] => .refl _
  | b :: r => by
    unfold ins
    by_cases c : a ≤ b
    · rw [if_pos c]
    · rw [if_neg c]
      exact ((ins_perm a r).cons b).trans (List.Perm.swap a b r)
theorem isort_perm : ∀ l : List Int, (isort l).Perm l
  | [] => .refl _
  | a :: r => (ins_perm a (isort r)).trans ((isort_perm r).cons a)
theorem ins_up (a : Int) : ∀ l : List Int, l.Pairwise (· ≤ ·) → (ins a l).Pairwise (· ≤ ·)
  | [], _ => by unfold ins; simp
  | b :: r, h => by
    unfold ins
    have hb := List.pairwise_cons.mp h
    by_cases c : a ≤ b
    · rw [if_pos c]
      refine List.pairwise_cons.mpr ⟨fun x hx => ?_, h⟩
      rcases List.mem_cons.mp hx with e | e
      · subst e; exact c
      · exact Int.le_trans c (hb.1 x e)
    · rw [if_neg c]
      refine List.pairwise_cons.mpr ⟨fun x hx => ?_, ins_up a r hb.2⟩
      rcases List.mem_cons.mp ((ins_perm a r).mem_iff.mp hx) with e | e
      · subst e; omega
      · exact hb.1 x e
theorem isort_up : ∀ l : List Int, (isort l).Pairwise (· ≤ ·)
  | [] => by unfold isort; simp
  | a :: r => ins_up a _ (isort_up r)
theorem sorted_one : ∀ {l k : List Int}, l.Perm k → l.Pairwise (· ≤ ·) → k.Pairwise (· ≤ ·) → l = k
  | [], k, p, _, _ => by rw [List.nil_perm.mp p]
  | a :: r, [], p, _, _ => by have := p.length_eq; simp at this
  | a :: r, b :: t, p, hl, hk => by
    have h1 := List.pairwise_cons.mp hl
    have h2 := List.pairwise_cons.mp hk
    have e : a = b := by
      have ma : a ∈ b :: t := p.mem_iff.mp List.mem_cons_self
      have mb : b ∈ a :: r := p.mem_iff.mpr List.mem_cons_self
      rcases List.mem_cons.mp ma with e | e
      · exact e
      · rcases List.mem_cons.mp mb with f | f
        · exact f.symm
        · have := h1.1 b f
          have := h2.1 a e
          omega
    subst e
    rw [sorted_one (List.Perm.cons_inv p) h1.2 h2.2]
theorem isort_of {l k : List Int} (p : k.Perm l) (h : k.Pairwise (· ≤ ·)) : k = isort l := sorted_one (p.trans (isort_perm l).symm) h (isort_up l)
section
variable {prog : Program} {w : World} {A : Around} {E : Value → Shared → Prop} {s : Shared}
theorem collect_tup {l : Addr} {vs : List Value} {Q : List Value → Shared → Prop} (hl : IsTup s.heap l vs.toArray)
    (h : Q vs { s with heap := (s.heap.push (seqObj "list" #[] 0)).update s.heap.objs.size (Obj.mapSeq (· ++ vs.toArray)) }) (hsz : vs.length ≤ sizeLine) : wpAny (model prog w) A (collect (.ref l)) Q E s := by
  obtain ⟨o, ho, hc, n, hd⟩ := id hl
  unfold collect
  refine wpAny_bind (wpAny_runValue (codeAny_builtin entry_proto_collect' ?_))
  show wpAny _ _ (do again (.builtin "list.__iadd__" ⟨[← newList [], .ref l], []⟩)) _ _ s
  refine wpAny_bind (wpAny_newList (wpAny_pure ⟨Code.quiet_builtin _ (by decide +kernel), codeAny_builtin entry_list_iadd' ?_⟩))
  show wpAny _ _ (Builtin.List.listExtendWith (.ref s.heap.objs.size) (.ref l) (.ref s.heap.objs.size)) _ _ { s with heap := s.heap.push (seqObj "list" #[] 0) }
  unfold Builtin.List.listExtendWith
  have k1 : (s.heap.push (seqObj "list" #[] 0)).get? l = some o := Heap.get?_push_of_some _ ho
  refine wpAny_bind (wpAny_typeOf (T := "tuple") ⟨o, k1, hc⟩ ?_)
  rw [if_pos (by rw [show (Value.type "tuple" == Value.type "tuple") = true by rfl]; simp)]
  refine wpAny_bind (listItems_at k1 hd ?_)
  refine wpAny_bind (listItems_at (xs := #[]) (n := 0) (Heap.get?_push_size _ rfl) rfl ?_)
  rw [if_neg (by simp)]
  refine wpAny_bind (listUpdate_at (xs := #[]) (n := 0) (Heap.get?_push_size _ rfl) rfl ?_ (Nat.zero_le _) (by show (#[] ++ vs.toArray).size ≤ sizeLine + 1; simp only [Array.size_append, List.size_toArray, List.length_nil]; omega))
  refine wpAny_pure ?_
  refine wpAny_bind (wpAny_load (get?_update_seq (Heap.get?_push_size _ rfl) _) ?_)
  show wpAny _ _ (pure ((#[] : Array Value) ++ vs.toArray).toList) Q E _
  rw [show ((#[] : Array Value) ++ vs.toArray).toList = vs by simp]
  exact wpAny_pure h
theorem sorted_tup {l : Addr} {vs : List Value} {ns : List Int} {Q : Value → Shared → Prop} (hl : IsTup s.heap l vs.toArray) (hi : IntsAre vs ns) (hz : vs.length ≤ sizeLine)
    (h : ∀ out : List Value, SrtO.Srtd SrtO.ltIv out → SrtO.Stb SrtO.ltIv out vs → Q (.ref (s.heap.objs.size + 1)) { s with heap := sortedAll s.heap vs out.toArray }) :
    wpAny (model prog w) A (call (.builtin "sorted") [.ref l]) Q E s := by
  refine Calls.call_function_entry kind_sorted plain_sorted entry_sorted (args_sorted1 _) ?_
  unfold Builtin.«sorted»
  refine wpAny_bind (m := checkCount "sorted" 1 1 _) (wpAny_pure ?_)
  refine wpAny_bind (collect_tup hl ?_ hz)
  refine wpAny_bind (wpAny_newList ?_ hz)
  generalize hg : (s.heap.push (seqObj "list" #[] 0)).update s.heap.objs.size (Obj.mapSeq (· ++ vs.toArray)) = g
  have gz : g.objs.size = s.heap.objs.size + 1 := by rw [← hg, Heap.size_update, size_push']
  have gl : (g.push (seqObj "list" vs.toArray 0)).get? (s.heap.objs.size + 1) = some (seqObj "list" vs.toArray 0) := by rw [← gz]; exact Heap.get?_push_size _ rfl
  show wpAny _ _ _ _ _ { s with heap := g.push (seqObj "list" vs.toArray 0) }
  rw [gz]
  refine wpAny_bind (wpAny_holding (wpAny_call_entry slot_list_sort ⟨_, gl, rfl⟩ entry_list_sort (SrtO.list_sort_ord SrtO.swo_int gl hz (fun h2 => SrtO.ints_sortable hi h2) fun out hs hb => ⟨_, rfl, ?_⟩) (args_list_sort _)))
  refine wpAny_pure ⟨_, rfl, ?_⟩
  subst hg
  exact h out hs hb
end
/-- sorted of a tuple of ints -/
theorem cr_sortedT : CallR X (.builtin "sorted") (fun xs H Q => ∃ (a : Addr) (ns : List Int), xs = [.ref a] ∧ Rd H a (.tup (ns.map V.int)) ∧ ∀ (ns' : List Int) (p : Addr), ns'.Perm ns → ns'.Pairwise (· ≤ ·) → H p = none → Q (.ref p) (upd H p (.lst (ns'.map V.int)))) := by
  intro pins s σ H vs us Q I r h
  obtain ⟨a, ns, rfl, hs, q⟩ := h
  obtain ⟨its, rv, hl, hz⟩ := I.tuple (.inl hs)
  rw [Vals.ref1 r]
  have hi := rv.ints
  refine sorted_tup hl hi (by rw [← rv.length]; exact hz) fun out h1 h2 => ?_
  obtain ⟨k1, k2, k3⟩ := SrtO.ints_out hi h1 h2
  obtain ⟨ep, he⟩ := PyProof.Rows.sortedAll_at s.heap its out.toArray
  have hlen : ((out.map SrtO.iv).map V.int).length ≤ sizeLine := by
    rw [List.length_map, k2.length_eq]
    simpa using hz
  refine ⟨.ref _, _, I.laid (t' := s.toks) (a := s.heap.objs.size + 1) (o := .lst ((out.map SrtO.iv).map V.int)) (fun _ _ => PyProof.Rows.sortedAll_old) (Nat.le_succ _) ⟨hlen, out, ep, vals_of_ints k1, he⟩, rfl, q _ _ k2 k3 (I.hok.fresh (Nat.le_succ _))⟩
/-! ### repr -/
mutual
theorem wid_shown : ∀ d : PyData, d.showable = true → d.plain = true → d.shown.length ≤ wid d
  | .none, _, _ => by simp only [wid]; decide
  | .bool b, _, _ => by cases b <;> (simp only [wid]; decide)
  | .int i, h, _ => by
    have q := int_text_length_le (a := i) (k := i.natAbs.log2 + 1) (Nat.succ_pos _) (Nat.lt_succ_self _)
    simp only [wid]
    show (Str.ofString (toString i)).length ≤ _
    rw [PySem.ofString_length]
    omega
  | .str x, _, _ => by simp only [wid, PyData.shown]; exact Nat.le_refl _
  | .list xs, h, p => by
    have q := widAll_shown xs (by simpa only [PyData.showable] using h) (by simpa only [PyData.plain] using p)
    have r := listText_len_le (PyData.shownAll xs)
    simp only [wid, PyData.shown]
    omega
  | .tuple xs, h, p => by
    have q := widAll_shown xs (by simpa only [PyData.showable] using h) (by simpa only [PyData.plain] using p)
    have r := tupleText_len_le (PyData.shownAll xs)
    simp only [wid, PyData.shown]
    omega
  | .dict _, _, p => by simp only [PyData.plain] at p; cases p
theorem widAll_shown : ∀ ds : List PyData, PyData.showableAll ds = true → PyData.plainAll ds = true → ((PyData.shownAll ds).map (·.length)).sum + 2 * (PyData.shownAll ds).length ≤ widAll ds
  | [], _, _ => by simp only [PyData.shownAll, widAll]; decide
  | x :: xs, h, p => by
    simp only [PyData.showableAll, Bool.and_eq_true] at h
    simp only [PyData.plainAll, Bool.and_eq_true] at p
    have h1 := wid_shown x h.1 p.1
    have h2 := widAll_shown xs h.2 p.2
    simp only [PyData.shownAll, widAll, List.map_cons, List.sum_cons, List.length_cons]
    omega
end
mutual
theorem plain_hasDict : ∀ d : PyData, d.plain = true → d.hasDict = false
  | .none, _ => by simp only [PyData.hasDict]
  | .bool _, _ => by simp only [PyData.hasDict]
  | .int _, _ => by simp only [PyData.hasDict]
  | .str _, _ => by simp only [PyData.hasDict]
  | .list xs, p => by simp only [PyData.hasDict]; exact plain_hasDictAll xs (by simpa only [PyData.plain] using p)
  | .tuple xs, p => by simp only [PyData.hasDict]; exact plain_hasDictAll xs (by simpa only [PyData.plain] using p)
  | .dict _, p => by simp only [PyData.plain] at p; cases p
theorem plain_hasDictAll : ∀ ds : List PyData, PyData.plainAll ds = true → PyData.hasDictAll ds = false
  | [], _ => by simp only [PyData.hasDictAll]
  | x :: xs, p => by
    simp only [PyData.plainAll, Bool.and_eq_true] at p
    simp only [PyData.hasDictAll, plain_hasDict x p.1, plain_hasDictAll xs p.2, Bool.or_self]
end
def rVn (f : List PyData → Option D) : List V → Hp → VK → Prop := fun xs H Q => ∃ W0 H0 W st us d, Now W0 H0 W st H ∧ Paired (fun v u => Vw W H v u) xs us ∧ f us = some d ∧ Fin W0 H0 st d Q
theorem vw1 {W : Wd} {H : Hp} {xs : List V} {u : PyData} (h : Paired (fun v u => Vw W H v u) xs [u]) : ∃ x, xs = [x] ∧ Vw W H x u := by
  cases h with
  | cons a b => cases b; exact ⟨_, rfl, a⟩
theorem vw2 {W : Wd} {H : Hp} {xs : List V} {u v : PyData} (h : Paired (fun v u => Vw W H v u) xs [u, v]) : ∃ x y, xs = [x, y] ∧ Vw W H x u ∧ Vw W H y v := by
  cases h with
  | cons a b =>
    cases b with
    | cons c d => cases d; exact ⟨_, _, rfl, a, c⟩
/-- the truth of values -/
inductive VT : List V → List Bool → Prop
  | nil : VT [] []
  | non {vs : List V} {bs : List Bool} : VT vs bs → VT (.non :: vs) (false :: bs)
  | bl {vs : List V} {bs : List Bool} (b : Bool) : VT vs bs → VT (.bl b :: vs) (b :: bs)
  | int {vs : List V} {bs : List Bool} (i : Int) : VT vs bs → VT (.int i :: vs) ((i != 0) :: bs)
theorem vt_of {I : Addr → Prop} {H : Hp} : ∀ {vs : List V} {ds : List PyData} {bs : List Bool}, DvAll I H vs ds → truths ds = some bs → VT vs bs
  | _, _, _, .nil, e => by
    unfold truths at e
    cases e
    exact .nil
  | _, _, bs, .cons (ds := ds) x h, e => by
    unfold truths at e
    cases x <;> simp only [truth] at e <;> first | (cases e; done) | skip
    all_goals
      obtain ⟨cs, e', rfl⟩ := mapS e
      have := vt_of h e'
      first | exact .non this | exact .bl _ this | exact .int _ this
theorem VT.at : ∀ {vs : List V} {bs : List Bool} {us : List Value} {i : Nat} {v : Value}, VT vs bs → Vals vs us → us[i]? = some v → (v = .none ∧ bs.getD i false = false) ∨ (∃ b, v = .bool b ∧ bs.getD i false = b) ∨ ∃ j t, v = .int j t ∧ bs.getD i false = (j != 0)
  | _, _, _, i, _, .nil, .nil, e => by simp at e
  | _, _, _, 0, _, .non _, .cons r _, e => by
    simp at e
    subst e
    exact .inl ⟨r, rfl⟩
  | _, _, _, 0, _, .bl b _, .cons r _, e => by
    simp at e
    subst e
    exact .inr (.inl ⟨b, r, rfl⟩)
  | _, _, _, 0, _, .int j _, .cons r _, e => by
    simp at e
    subst e
    obtain ⟨t, rfl⟩ := r
    exact .inr (.inr ⟨j, t, rfl, rfl⟩)
  | _, _, _, i + 1, _, .non h, .cons _ t, e => by simpa using VT.at (i := i) h t (by simpa using e)
  | _, _, _, i + 1, _, .bl _ h, .cons _ t, e => by simpa using VT.at (i := i) h t (by simpa using e)
  | _, _, _, i + 1, _, .int _ h, .cons _ t, e => by simpa using VT.at (i := i) h t (by simpa using e)
theorem VT.length : ∀ {vs : List V} {bs : List Bool}, VT vs bs → vs.length = bs.length
  | _, _, .nil => rfl
  | _, _, .non h => by rw [List.length_cons, List.length_cons, VT.length h]
  | _, _, .bl _ h => by rw [List.length_cons, List.length_cons, VT.length h]
  | _, _, .int _ h => by rw [List.length_cons, List.length_cons, VT.length h]
theorem truth_vt {prog : Program} {w : World} {A : Around} {vs : List V} {bs : List Bool} {its : List Value} (r : Vals vs its) (e : VT vs bs) :
    TruthOf prog w A (fun i v => its.toArray[i]? = some v) (fun i => bs.getD i false) := fun i v s Q E hv hq => by
  have hv' : its[i]? = some v := by simpa using hv
  have hq' : Q (bs.getD i false) s := hq
  rcases e.at r hv' with ⟨rfl, e'⟩ | ⟨b, rfl, e'⟩ | ⟨j, t, rfl, e'⟩ <;> rw [e'] at hq'
  · exact PyProof.Rows.truthy_none hq'
  · exact wpAny_truthy_bool hq'
  · exact PySem.P.truthy_int hq'
theorem iter_tup {prog : Program} {w : World} {A : Around} {E : Value → Shared → Prop} {s : Shared} {l : Addr} {items : Array Value} {Q : Value → Shared → Prop} (hl : s.heap.IsTuple l items)
    (h : ∀ s2 : Shared, s2 = { s with heap := s.heap.push { cls := .type "tuple_iterator", data := .fields #[.ref l, .int 0 0] } } →
      (s2.heap.IsTupleIter s.heap.objs.size l 0 ∧ s2.heap.IsTuple l items) → l ≠ s.heap.objs.size → Q (.ref s.heap.objs.size) s2) : wpAny (model prog w) A (pyIter (.ref l)) Q E s := by
  have hlt : l < s.heap.objs.size := by obtain ⟨_, e, _⟩ := hl; exact Heap.lt_size e
  exact wpAny_pyIter_tuple hl (h _ rfl ⟨⟨_, Heap.get?_push_size _ rfl, rfl, rfl⟩, hl.push _⟩ (Nat.ne_of_lt hlt))
def rQu (K : PySem.W.Frag) (q : List Bool → Bool) : List V → Hp → VK → Prop := fun vs H Q => ∃ (a : Addr) (xs : List V) (bs : List Bool), vs = [V.ref a] ∧ (SqL K H a xs ∨ SqT K H a xs) ∧ VT xs bs ∧ Q (.bl (q bs)) H
theorem cr_anyQ (hc : X.calm = true) : CallR X (.builtin "any") (rQu X.K fun bs => bs.any id) := by
  intro pins s σ H vs us Q I r h
  obtain ⟨a, xs, bs, rfl, hs, vt, q⟩ := h
  rw [Vals.ref1 r]
  rcases hs with hs | hs
  · obtain ⟨its, rv, hl, _⟩ := I.list hs
    refine call_any_walk (iter_any hl.isList fun s2 e2 st hne => ?_)
    subst e2
    refine ⟨_, _, _, _, _, _, _, rfl, Walks.list (A := X.A.in1) (I.ok.hd hc) _ a hne its.toArray, st, truth_vt rv vt, fun h' tk hk => ?_⟩
    refine ⟨.bl _, H, I.kept fun b o eo => hk b o (fun hmem => ?_) (Heap.get?_push_of_some _ eo), ?_, q⟩
    · rcases List.mem_cons.mp hmem with e1 | hmem
      · exact absurd (e1 ▸ Heap.lt_size eo) (Nat.lt_irrefl _)
      · cases hmem
    · show Value.bool _ = Value.bool (bs.any id)
      rw [← L2.any_range, List.size_toArray, ← rv.length, vt.length]
  · obtain ⟨its, rv, hl, _⟩ := I.tuple hs
    refine call_any_walk (iter_tup hl fun s2 e2 st hne => ?_)
    subst e2
    refine ⟨_, _, _, _, _, _, _, rfl, Walks.tuple (A := X.A.in1) (I.ok.hd hc) _ a hne its.toArray, st, truth_vt rv vt, fun h' tk hk => ?_⟩
    refine ⟨.bl _, H, I.kept fun b o eo => hk b o (fun hmem => ?_) (Heap.get?_push_of_some _ eo), ?_, q⟩
    · rcases List.mem_cons.mp hmem with e1 | hmem
      · exact absurd (e1 ▸ Heap.lt_size eo) (Nat.lt_irrefl _)
      · cases hmem
    · show Value.bool _ = Value.bool (bs.any id)
      rw [← L2.any_range, List.size_toArray, ← rv.length, vt.length]
theorem cr_allQ (hc : X.calm = true) : CallR X (.builtin "all") (rQu X.K fun bs => bs.all id) := by
  intro pins s σ H vs us Q I r h
  obtain ⟨a, xs, bs, rfl, hs, vt, q⟩ := h
  rw [Vals.ref1 r]
  rcases hs with hs | hs
  · obtain ⟨its, rv, hl, _⟩ := I.list hs
    refine call_all_walk (iter_any hl.isList fun s2 e2 st hne => ?_)
    subst e2
    refine ⟨_, _, _, _, _, _, _, rfl, Walks.list (A := X.A.in1) (I.ok.hd hc) _ a hne its.toArray, st, truth_vt rv vt, fun h' tk hk => ?_⟩
    refine ⟨.bl _, H, I.kept fun b o eo => hk b o (fun hmem => ?_) (Heap.get?_push_of_some _ eo), ?_, q⟩
    · rcases List.mem_cons.mp hmem with e1 | hmem
      · exact absurd (e1 ▸ Heap.lt_size eo) (Nat.lt_irrefl _)
      · cases hmem
    · show Value.bool _ = Value.bool (bs.all id)
      rw [← L2.all_range, List.size_toArray, ← rv.length, vt.length]
  · obtain ⟨its, rv, hl, _⟩ := I.tuple hs
    refine call_all_walk (iter_tup hl fun s2 e2 st hne => ?_)
    subst e2
    refine ⟨_, _, _, _, _, _, _, rfl, Walks.tuple (A := X.A.in1) (I.ok.hd hc) _ a hne its.toArray, st, truth_vt rv vt, fun h' tk hk => ?_⟩
    refine ⟨.bl _, H, I.kept fun b o eo => hk b o (fun hmem => ?_) (Heap.get?_push_of_some _ eo), ?_, q⟩
    · rcases List.mem_cons.mp hmem with e1 | hmem
      · exact absurd (e1 ▸ Heap.lt_size eo) (Nat.lt_irrefl _)
      · cases hmem
    · show Value.bool _ = Value.bool (bs.all id)
      rw [← L2.all_range, List.size_toArray, ← rv.length, vt.length]
def biFn : Bi → Value
  | .len => .builtin "len"
  | .abs => .builtin "abs"
  | .int => .type "int"
  | .repr => .builtin "repr"
  | .list => .type "list"
  | .tuple => .type "tuple"
  | .sum => .builtin "sum"
  | .all => .builtin "all"
  | .any => .builtin "any"
  | .sorted => .builtin "sorted"
  | .min2 => .builtin "min"
  | .max2 => .builtin "max"
theorem cr_bi (hu : X.A.units + 64 < cLine) (hg : X.A.guards = some []) (hc : X.calm = true) (b : Bi) : CallR X (biFn b) (rVn (biV b)) := by
  intro pins s σ H xs us Q I r h
  obtain ⟨W0, H0, W, st, ds, d, n, vw, e, f⟩ := h
  have hsz := sizeLine_eq
  cases b with
  | len =>
    replace e : lenB ds = some d := e
    unfold lenB at e
    split at e
    · cases e
      obtain ⟨x, rfl, a, vs, rfl, q, t⟩ := vw1 vw
      exact call_len_seq pins s σ H _ us Q I r ⟨a, vs, rfl, .inl (.inl q), f.here n (by rw [t.length]; exact .int _)⟩
    · cases e
      obtain ⟨x, rfl, v⟩ := vw1 vw
      obtain ⟨a, vs, rfl, q, t⟩ := v.tup
      exact call_len_seq pins s σ H _ us Q I r ⟨a, vs, rfl, .inr (.inl q), f.here n (by rw [t.length]; exact .int _)⟩
    · obtain ⟨hl, e⟩ := ifS e
      cases e
      obtain ⟨x, rfl, v⟩ := vw1 vw
      cases v.str
      exact call_len_str pins s σ H _ us Q I r ⟨_, rfl, by rw [hsz]; exact hl, f.here n (.int _)⟩
    · cases e
  | abs =>
    replace e : absB ds = some d := e
    unfold absB at e
    split at e
    · cases e
      obtain ⟨x, rfl, v⟩ := vw1 vw
      cases v.int
      exact call_abs pins s σ H _ us Q I r ⟨_, rfl, f.here n (.int _)⟩
    · cases e
  | int =>
    replace e : intB ds = some d := e
    unfold intB at e
    split at e
    · cases e
      obtain ⟨x, rfl, v⟩ := vw1 vw
      cases v.int
      exact call_int1 pins s σ H _ us Q I r (.inl ⟨_, rfl, f.here n (.int _)⟩)
    · cases e
      obtain ⟨x, rfl, v⟩ := vw1 vw
      cases v.bool
      exact call_int1 pins s σ H _ us Q I r (.inr ⟨_, rfl, f.here n (.int _)⟩)
    · cases e
  | repr =>
    replace e : reprB ds = some d := e
    unfold reprB at e
    split at e
    · rename_i d'
      obtain ⟨hk, e⟩ := ifS e
      cases e
      obtain ⟨x, rfl, v⟩ := vw1 vw
      obtain ⟨u, rfl, ru⟩ := vals1 r
      simp only [Bool.and_eq_true, decide_eq_true_eq] at hk
      obtain ⟨⟨h1, h2⟩, h3⟩ := hk
      have p := shal_plain _ _ h1
      have dp := shal_depth _ _ h1
      obtain ⟨as, rd⟩ := v.reads I ru p
      have hlen : d'.shown.length ≤ sizeLine := Nat.le_trans (wid_shown d' h2 p) (by rw [hsz]; exact h3)
      have fin : ∀ (h' : Heap) (t : Tok) (tk : Nat), (∀ b o, s.heap.get? b = some o → h'.get? b = some o) → EP X pins σ Q (.str d'.shown t) { s with heap := h', toks := tk } := fun h' t tk k =>
        ⟨.str d'.shown, H, I.kept k, ⟨_, rfl⟩, f.here n (.str _)⟩
      have same : ∀ (h' : Heap), h' = s.heap → (∀ b o, s.heap.get? b = some o → h'.get? b = some o) := fun h' e b o q => by rw [e]; exact q
      cases rd with
      | none => exact PySem.P.repr_of_none (fin s.heap _ _ fun _ _ q => q)
      | bool b => exact PySem.P.repr_of_bool (by cases b <;> exact fin s.heap _ _ fun _ _ q => q)
      | int i t =>
        have hi : i.natAbs.log2 < 1920 := by simpa only [PyData.showable, decide_eq_true_eq] using h2
        exact PySem.P.repr_of_int hi (fin s.heap _ _ fun _ _ q => q)
      | str y t => exact PySem.P.repr_of_str (fin s.heap _ _ fun _ _ q => q) hlen
      | list k1 k2 k3 k4 => exact repr_of_reads' (.list k1 k2 k3 k4) h2 (PyData.noDict_hsm (plain_hasDict _ p)) hg (by omega) (fun _ _ q => q) (fun h' t tk k => fin h' t tk k) hlen
      | tuple k1 k2 k3 k4 => exact repr_of_reads' (.tuple k1 k2 k3 k4) h2 (PyData.noDict_hsm (plain_hasDict _ p)) hg (by omega) (fun _ _ q => q) (fun h' t tk k => fin h' t tk k) hlen
      | dict k1 k2 k3 k4 k5 => simp only [PyData.plain] at p; cases p
    · cases e
  | list =>
    replace e : listB ds = some d := e
    unfold listB at e
    split at e
    · cases e
      obtain ⟨x, rfl, a, vs, rfl, q, t⟩ := vw1 vw
      exact call_list_of pins s σ H _ us Q I r ⟨a, vs, rfl, .inl (.inl q), fun p hp => f.lst n t hp⟩
    · cases e
      obtain ⟨x, rfl, v⟩ := vw1 vw
      obtain ⟨a, vs, rfl, q, t⟩ := v.tup
      exact call_list_of pins s σ H _ us Q I r ⟨a, vs, rfl, .inr (.inl q), fun p hp => f.lst n t hp⟩
    · cases e
  | tuple =>
    replace e : tupleB ds = some d := e
    unfold tupleB at e
    split at e
    · cases e
      obtain ⟨x, rfl, a, vs, rfl, q, t⟩ := vw1 vw
      exact call_tuple_of pins s σ H _ us Q I r ⟨a, vs, rfl, .inl ⟨.inl q, fun p hp => f.tup n t hp⟩⟩
    · cases e
      obtain ⟨x, rfl, v⟩ := vw1 vw
      obtain ⟨a, vs, rfl, q, t⟩ := v.tup
      exact call_tuple_of pins s σ H _ us Q I r ⟨a, vs, rfl, .inr ⟨.inl q, f.here n (show Dv W.im H _ _ from v)⟩⟩
    · cases e
  | sum =>
    replace e : sumB ds = some d := e
    unfold sumB at e
    split at e
    · obtain ⟨ns, e', rfl⟩ := mapS e
      obtain ⟨x, rfl, a, vs, rfl, q, t⟩ := vw1 vw
      obtain ⟨rfl, _⟩ := t.ints e'
      exact cr_sum hc pins s σ H _ us Q I r ⟨a, ns, rfl, .inl q, f.here n (.int _)⟩
    · cases e
  | all =>
    replace e : allB ds = some d := e
    unfold allB at e
    split at e
    · obtain ⟨ns, e', rfl⟩ := mapS e
      obtain ⟨x, rfl, a, vs, rfl, q, t⟩ := vw1 vw
      exact cr_allQ hc pins s σ H _ us Q I r ⟨a, vs, ns, rfl, .inl (.inl q), vt_of t e', f.here n (.bl _)⟩
    · obtain ⟨ns, e', rfl⟩ := mapS e
      obtain ⟨x, rfl, v⟩ := vw1 vw
      obtain ⟨a, vs, rfl, q, t⟩ := v.tup
      exact cr_allQ hc pins s σ H _ us Q I r ⟨a, vs, ns, rfl, .inr (.inl q), vt_of t e', f.here n (.bl _)⟩
    · cases e
  | any =>
    replace e : anyB ds = some d := e
    unfold anyB at e
    split at e
    · obtain ⟨ns, e', rfl⟩ := mapS e
      obtain ⟨x, rfl, a, vs, rfl, q, t⟩ := vw1 vw
      exact cr_anyQ hc pins s σ H _ us Q I r ⟨a, vs, ns, rfl, .inl (.inl q), vt_of t e', f.here n (.bl _)⟩
    · obtain ⟨ns, e', rfl⟩ := mapS e
      obtain ⟨x, rfl, v⟩ := vw1 vw
      obtain ⟨a, vs, rfl, q, t⟩ := v.tup
      exact cr_anyQ hc pins s σ H _ us Q I r ⟨a, vs, ns, rfl, .inr (.inl q), vt_of t e', f.here n (.bl _)⟩
    · cases e
  | sorted =>
    replace e : sortedB ds = some d := e
    unfold sortedB at e
    split at e
    · obtain ⟨ns, e', rfl⟩ := mapS e
      obtain ⟨x, rfl, a, vs, rfl, q, t⟩ := vw1 vw
      obtain ⟨rfl, _⟩ := t.ints e'
      exact cr_sortedI pins s σ H _ us Q I r ⟨a, ns, rfl, .inl q, fun ns' p k1 k2 hp => by
        rw [isort_of k1 k2]
        exact f.lst n (DvAll.of_ints _) hp⟩
    · obtain ⟨ns, e', rfl⟩ := mapS e
      obtain ⟨x, rfl, v⟩ := vw1 vw
      obtain ⟨a, vs, rfl, q, t⟩ := v.tup
      obtain ⟨rfl, _⟩ := t.ints e'
      exact cr_sortedT pins s σ H _ us Q I r ⟨a, ns, rfl, q, fun ns' p k1 k2 hp => by
        rw [isort_of k1 k2]
        exact f.lst n (DvAll.of_ints _) hp⟩
    · cases e
  | min2 =>
    replace e : min2B ds = some d := e
    unfold min2B at e
    split at e
    · cases e
      obtain ⟨x, y, rfl, v1, v2⟩ := vw2 vw
      cases v1.int; cases v2.int
      exact call_min2 hc pins s σ H _ us Q I r ⟨_, _, rfl, f.here n (.int _)⟩
    · cases e
  | max2 =>
    replace e : max2B ds = some d := e
    unfold max2B at e
    split at e
    · cases e
      obtain ⟨x, y, rfl, v1, v2⟩ := vw2 vw
      cases v1.int; cases v2.int
      exact call_max2 hc pins s σ H _ us Q I r ⟨_, _, rfl, f.here n (.int _)⟩
    · cases e
end
end MP
end MVal

section MChk
set_option Elab.async false
set_option linter.all false
set_option maxRecDepth 100000
set_option autoImplicit false
set_option maxHeartbeats 1000000
/-! MChk: does a text of MPy stand for a given text of the syntax? -/
namespace MP
open PySem PySem.Spec PyProof.Rows L2

structure Tab where
  P : List Def
  G : List (Str × PyData)
def noStar : Expr → Bool
  | .Starred _ _ => false
  | _ => true
def noSlice : Expr → Bool
  | .Slice _ _ _ _ => false
  | _ => true
def noSet : Expr → Bool
  | .Set _ _ _ => false
  | _ => true
def noCall0 : Expr → Bool
  | .Call (.Name _ _) [] [] _ => false
  | _ => true
def plainT : Expr → Bool
  | .UnaryOp .Not _ _ => false
  | .BoolOp _ _ _ => false
  | .IfExp _ _ _ _ => false
  | .Compare _ _ _ _ => false
  | _ => true
def noComp : Expr → Bool
  | .ListComp _ _ _ _ => false
  | .SetComp _ _ _ _ => false
  | .DictComp _ _ _ _ _ => false
  | _ => true
def noTup : Expr → Bool
  | .Tuple _ _ _ => false
  | _ => true
def okName (x : Str) : Bool := !(x == ("__debug__" : Str)) && !(x == ("__classdict__" : Str)) && !decide (x = ("__name__" : Str))
def visB (sc : Scope) (x : Str) : Bool := match sc.names.lookup x with
  | some .local => true
  | some .cell => true
  | some .free => true
  | _ => false
def gloB (sc : Scope) (x : Str) : Bool := match sc.names.lookup x with
  | some .globalImplicit => true
  | _ => false
def stoB (sc : Scope) (fq : Str → Bool) (x : Str) : Bool := match sc.names.lookup x with
  | some .local => true
  | some .cell => fq x
  | _ => false
def conB : PyData → Const → Bool
  | .none, .none => true
  | .bool a, .bool b => a == b
  | .int a, .int b => decide (a = b)
  | .str a, .str b => decide (a = b)
  | _, _ => false
def gsame : PyData → PyData → Bool
  | .int a, .int b => decide (a = b)
  | .str a, .str b => decide (a = b)
  | _, _ => false
/-- how a built-in is called -/
def biNm : Bi → Str
  | .len => "len"
  | .abs => "abs"
  | .int => "int"
  | .repr => "repr"
  | .list => "list"
  | .tuple => "tuple"
  | .sum => "sum"
  | .all => "all"
  | .any => "any"
  | .sorted => "sorted"
  | .min2 => "min"
  | .max2 => "max"
def tyNm : Ty → Str
  | .int => "int"
  | .bool => "bool"
  | .str => "str"
  | .tuple => "tuple"
  | .list => "list"
  | .dict => "dict"
def builtinNames : List Str := ["len", "abs", "int", "repr", "list", "tuple", "sum", "all", "any", "sorted", "min", "max", "range", "enumerate", "zip", "isinstance", "bool", "str", "dict"]
def nameIs (sc : Scope) (x : Str) : Expr → Bool
  | .Name y _ => decide (y = x) && gloB sc x
  | _ => false
def tyNames (sc : Scope) : List Ty → List Expr → Bool
  | [], [] => true
  | t :: ts, e :: es => nameIs sc (tyNm t) e && tyNames sc ts es
  | _, _ => false
mutual
def tgNames : Tg → List Nat
  | .name i => [i]
  | .tup ts => tgsNames ts
  | .sub _ _ => []
  | .subD _ _ => []
def tgsNames : Tgs → List Nat
  | .nil => []
  | .cons t ts => tgNames t ++ tgsNames ts
end
/-- the scope that runs in a comprehension -/
def blkSc (scope sc : Scope) : Scope := relS scope sc
/-- what may stand as a test -/
def tOk : Ex → Bool
  | .ife _ _ _ => false
  | .cell _ => false
  | .and a b => tOk a && tOk b
  | .or a b => tOk a && tOk b
  | .not a => tOk a
  | _ => true
mutual
def chkE (T : Tab) (N : List Str) (sc : Scope) (fq : Str → Bool) : Ex → Expr → Bool
  | .var i, e => match e with
    | .Name x _ => decide (N[i]? = some x) && visB sc x && okName x
    | _ => false
  | .con d, e => match e with
    | .Constant c _ _ => conB d c
    | _ => false
  | .glob x d, e => match e with
    | .Name y _ => decide (y = x) && gloB sc x && okName x && T.G.any fun p => decide (p.1 = x) && gsame p.2 d
    | _ => false
  | .bin op a b, e => match e with
    | .BinOp a' op' b' _ => decide (op' = bopOp op) && chkE T N sc fq a a' && chkE T N sc fq b b'
    | _ => false
  | .neg a, e => match e with
    | .UnaryOp .USub a' _ => chkE T N sc fq a a'
    | _ => false
  | .cmp op a b, e => match e with
    | .Compare a' [op'] [b'] _ => decide (op' = copOp op) && noSet b' && chkE T N sc fq a a' && chkE T N sc fq b b'
    | _ => false
  | .chain o1 o2 a b c, e => match e with
    | .Compare a' [op1, op2] [b', c'] _ => decide (op1 = copOp o1) && decide (op2 = copOp o2) && noSet c' && chkE T N sc fq a a' && chkE T N sc fq b b' && chkE T N sc fq c c'
    | _ => false
  | .isin ng a b, e => match e with
    | .Compare a' [op'] [b'] _ => decide (op' = if ng then .NotIn else .In) && noSet b' && chkE T N sc fq a a' && chkE T N sc fq b b'
    | _ => false
  | .isinD _ _ _, _ => false
  | .and a b, e => match e with
    | .BoolOp .And [a', b'] _ => chkE T N sc fq a a' && chkE T N sc fq b b'
    | .BoolOp .And (a' :: b' :: c' :: r) p => chkE T N sc fq a a' && chkE T N sc fq b (.BoolOp .And (b' :: c' :: r) p)
    | _ => false
  | .or a b, e => match e with
    | .BoolOp .Or [a', b'] _ => chkE T N sc fq a a' && chkE T N sc fq b b'
    | .BoolOp .Or (a' :: b' :: c' :: r) p => chkE T N sc fq a a' && chkE T N sc fq b (.BoolOp .Or (b' :: c' :: r) p)
    | _ => false
  | .not a, e => match e with
    | .UnaryOp .Not a' _ => chkE T N sc fq a a'
    | _ => false
  | .ife c a b, e => match e with
    | .IfExp c' a' b' _ => tOk c && chkE T N sc fq c c' && chkE T N sc fq a a' && chkE T N sc fq b b'
    | _ => false
  | .tup es, e => match e with
    | .Tuple es' _ _ => chkEs T N sc fq es es'
    | _ => false
  | .lst es, e => match e with
    | .List es' _ => chkEs T N sc fq es es'
    | _ => false
  | .emp _, e => match e with
    | .Dict [] [] _ => true
    | _ => false
  | .idx a b, e => match e with
    | .Subscript a' b' _ => noSlice b' && chkE T N sc fq a a' && chkE T N sc fq b b'
    | _ => false
  | .idxD _ _, _ => false
  | .slc a lo hi, e => match e with
    | .Subscript a' (.Slice lo' hi' none _) _ => chkE T N sc fq a a' && chkO T N sc fq lo lo' && chkO T N sc fq hi hi'
    | _ => false
  | .bi f es, e => match e with
    | .Call f' (a' :: es') [] _ => nameIs sc (biNm f) f' && chkEs T N sc fq es (a' :: es')
    | _ => false
  | .lrng a, e => match e with
    | .Call f' [.Call g' [a'] [] _] [] _ => nameIs sc "list" f' && nameIs sc "range" g' && noStar a' && chkE T N sc fq a a'
    | _ => false
  | .isi a ts par, e => match par, ts, e with
    | false, [t], .Call f' [a', t'] [] _ => nameIs sc "isinstance" f' && noStar a' && chkE T N sc fq a a' && nameIs sc (tyNm t) t'
    | _, _, _ => false
  | .call f es, e => match e with
    | .Call (.Name x _) (a' :: es') [] _ => okName x && gloB sc x && decide ((T.P[f]?).map (·.name) = some x) && chkEs T N sc fq es (a' :: es')
    | _ => false
  | .comp elt tg it ifs own, e => match e with
    | .ListComp elt' [⟨tg', it', ifs', 0⟩] scope _ => blkC N sc scope own && noSet it' && chkIt T N sc fq it tg' it' && chkTg T N (blkSc scope sc) (fun x => scope.names.lookup x == some .cell) tg tg' &&
      chkIf T N (blkSc scope sc) (fun x => scope.names.lookup x == some .cell) ifs ifs' && chkE T N (blkSc scope sc) (fun x => scope.names.lookup x == some .cell) elt elt' && (tgNames tg).all fun i => decide (i ∈ own.map (·.2))
    | _ => false
  | .cell e, e' => chkE T N sc fq e e'
  | .app a x, e => match e with
    | .Call (.Attribute a' m ap) [x'] [] cp => decide (m = "append") && noCall0 a' && decide (ap.endLine = cp.line) && noStar x' && chkE T N sc fq a a' && chkE T N sc fq x x'
    | _ => false
  | .pop a, e => match e with
    | .Call (.Attribute a' m ap) [] [] cp => decide (m = "pop") && noCall0 a' && decide (ap.endLine = cp.line) && chkE T N sc fq a a'
    | _ => false
  | .popAt a x, e => match e with
    | .Call (.Attribute a' m ap) [x'] [] cp => decide (m = "pop") && noCall0 a' && decide (ap.endLine = cp.line) && noStar x' && chkE T N sc fq a a' && chkE T N sc fq x x'
    | _ => false
  | .index _ _, _ => false
def chkEs (T : Tab) (N : List Str) (sc : Scope) (fq : Str → Bool) : Exs → List Expr → Bool
  | .nil, [] => true
  | .cons e es, e' :: es' => noStar e' && chkE T N sc fq e e' && chkEs T N sc fq es es'
  | _, _ => false
def chkO (T : Tab) (N : List Str) (sc : Scope) (fq : Str → Bool) : Opt → Option Expr → Bool
  | .none, none => true
  | .some e, some e' => chkE T N sc fq e e'
  | _, _ => false
def chkIf (T : Tab) (N : List Str) (sc : Scope) (fq : Str → Bool) : Opt → List Expr → Bool
  | .none, [] => true
  | .some e, [e'] => tOk e && chkE T N sc fq e e'
  | _, _ => false
def chkTg (T : Tab) (N : List Str) (sc : Scope) (fq : Str → Bool) : Tg → Expr → Bool
  | .name i, e => match e with
    | .Name x _ => decide (N[i]? = some x) && stoB sc fq x
    | _ => false
  | .tup ts, e => match e with
    | .Tuple es _ _ => chkTgs T N sc fq ts es
    | _ => false
  | .sub a b, e => match e with
    | .Subscript a' b' _ => noSlice b' && chkE T N sc fq a a' && chkE T N sc fq b b'
    | _ => false
  | .subD _ _, _ => false
def chkTgs (T : Tab) (N : List Str) (sc : Scope) (fq : Str → Bool) : Tgs → List Expr → Bool
  | .nil, [] => true
  | .cons t ts, e :: es => noStar e && chkTg T N sc fq t e && chkTgs T N sc fq ts es
  | _, _ => false
/-- what a for walks, with its target -/
def chkIt (T : Tab) (N : List Str) (sc : Scope) (fq : Str → Bool) : It → Expr → Expr → Bool
  | .val e, _, e' => chkE T N sc fq e e'
  | .rng1 a, _, e => match e with
    | .Call f' [a'] [] _ => nameIs sc "range" f' && noStar a' && chkE T N sc fq a a'
    | _ => false
  | .rng2 a b, _, e => match e with
    | .Call f' [a', b'] [] _ => nameIs sc "range" f' && noStar a' && noStar b' && chkE T N sc fq a a' && chkE T N sc fq b b'
    | _ => false
  | .rng3 _ _ _, _, _ => false
  | .enum a, tg, e => match tg, e with
    | .Tuple _ _ _, .Call f' [a'] [] _ => nameIs sc "enumerate" f' && noStar a' && chkE T N sc fq a a'
    | _, _ => false
  | .zip es, tg, e => match tg, e with
    | .Tuple _ _ _, .Call f' (a' :: es') [] _ => nameIs sc "zip" f' && decide (es'.length = 1) && chkEs T N sc fq es (a' :: es')
    | _, _ => false
end
/-- a list comprehension stored at a name of its own frame -/
def isLC : Expr → Bool
  | .ListComp _ _ _ _ => true
  | _ => false
def notName : Expr → Bool
  | .Name _ _ => false
  | _ => true
def notLocal (sc : Scope) : Expr → Bool
  | .Name y _ => !(sc.names.lookup y == some .local)
  | _ => true
def noLst : Expr → Bool
  | .List _ _ => false
  | _ => true
/-- how the machine stores -/
def asgOk (sc : Scope) (t e : Expr) : Bool := match t, e with
  | .Name y py, .ListComp _ _ scope p' => (match sc.names.lookup y with
    | some .local => decide (py.line = p'.line) && !(scope.names.any fun nk => nk.1 == y && (nk.2 == .local || nk.2 == .cell))
    | some .cell => true
    | _ => false)
  | .Tuple ts _ _, .Tuple vs _ _ => !(ts.length == 2 || ts.length == 3) || ts.any (notLocal sc)
  | t, e => noComp e && noLst t
mutual
def chkSt (T : Tab) (N : List Str) (sc : Scope) (fq : Str → Bool) : St → Stmt → Bool
  | .asg t e, s => match s with
    | .Assign [t'] e' p => chkTg T N sc fq t t' && chkE T N sc fq e e' && noStar t' && asgOk sc t' e'
    | _ => false
  | .par i j es, s => match s with
    | .Assign [.Tuple [.Name x px, .Name y py] _ _] (.Tuple [a', b'] _ _) _ => decide (N[i]? = some x) && decide (N[j]? = some y) && decide (i ≠ j) && (match sc.names.lookup x with
        | some .local => true
        | _ => false) && (match sc.names.lookup y with
        | some .local => true
        | _ => false) && decide (x ≠ y) && decide (px.line = py.line) && noStar a' && noStar b' && !([a', b'].all (foldedForSure 8)) && !([a', b'].all (constantsAlone 8)) && chkEs T N sc fq es [a', b']
    | _ => false
  | .aug a b op e, s => match s with
    | .AugAssign (.Subscript a' b' _) op' e' _ => noSlice b' && (match op with
      | .add => true
      | .sub => true
      | _ => false) && decide (op' = bopOp op) && chkE T N sc fq a a' && chkE T N sc fq b b' && chkE T N sc fq e e'
    | _ => false
  | .expr e, s => match s with
    | .Expr e' _ => noComp e' && chkE T N sc fq e e'
    | _ => false
  | .ret e, s => match s with
    | .Return (some e') _ => chkE T N sc fq e e'
    | _ => false
  | .ife c a b, s => match s with
    | .If c' a' b' _ => tOk c && chkE T N sc fq c c' && chkSts T N sc fq a a' && chkSts T N sc fq b b'
    | _ => false
  | .for_ t it body, s => match s with
    | .For t' it' body' [] _ => noSet it' && chkIt T N sc fq it t' it' && chkTg T N sc fq t t' && chkSts T N sc fq body body'
    | _ => false
  | .while_ c body, s => match s with
    | .While c' body' [] _ => tOk c && chkE T N sc fq c c' && chkSts T N sc fq body body'
    | _ => false
  | .brk, s => match s with
    | .Break _ => true
    | _ => false
  | .cnt, s => match s with
    | .Continue _ => true
    | _ => false
  | .pass, s => match s with
    | .Pass _ => true
    | _ => false
def chkSts (T : Tab) (N : List Str) (sc : Scope) (fq : Str → Bool) : Sts → List Stmt → Bool
  | .nil, [] => true
  | .cons s r, s' :: r' => chkSt T N sc fq s s' && chkSts T N sc fq r r'
  | .frz _ r, r' => chkSts T N sc fq r r'
  | _, _ => false
end
end MP
end MChk

section MFun
set_option Elab.async false
set_option linter.all false
set_option maxRecDepth 100000
set_option autoImplicit false
set_option maxHeartbeats 1000000
/-! MFun: a def's promise where no repr is running; a def by its body; a call; the law's end. -/
namespace MP
open PySem PySem.Spec PyProof.Rows L2

structure FnG (P : Program) (w : World) (K : PySem.W.Frag) (mg : Str → Option Value) (base : Heap) (CX : CXT) (k : Nat) (f : Addr) (fd : FuncData) (ps : List Str) (sp : Sp) : Prop where
  len : ∀ vs H Q E, sp vs H Q E → vs.length = ps.length
  run : ∀ (A : Around) (ou : List PySem.Env) (s : Shared) (H : Hp) (ar : Args) (us : List Value) (vs : List V) (Q : VK) (E : XK),
    Room k A → A.guards = some [] → Env0 P w K mg base A ou s H → BindsTo s fd ar (ps.zip us) → Vals vs us → sp vs H Q E →
    codeAny (model P w) A (.call (.ref f) ar) (CR CX ou P w H s Q E) s
section
variable {P : Program} {w : World} {K : PySem.W.Frag} {mg : Str → Option Value} {base : Heap} {CX : CXT} {j k : Nat} {f : Addr} {fd : FuncData} {ps : List Str} {sp sp' : Sp}
theorem FnG.mono (F : FnG P w K mg base CX j f fd ps sp) (h : j ≤ k) : FnG P w K mg base CX k f fd ps sp :=
  ⟨F.len, fun A ou s H ar us vs Q E r => F.run A ou s H ar us vs Q E (r.mono h)⟩
theorem FnG.of (F : FnOk P w K mg base CX k f fd ps sp) : FnG P w K mg base CX k f fd ps sp :=
  ⟨F.len, fun A ou s H ar us vs Q E r _ => F.run A ou s H ar us vs Q E r⟩
theorem FnG.imp (F : FnG P w K mg base CX k f fd ps sp) (h : ∀ vs H Q E, sp' vs H Q E → sp vs H Q E) : FnG P w K mg base CX k f fd ps sp' :=
  ⟨fun vs H Q E q => F.len vs H Q E (h _ _ _ _ q), fun A ou s H ar us vs Q E r g e b v q => F.run A ou s H ar us vs Q E r g e b v (h _ _ _ _ q)⟩
end
/-- a def by its body -/
theorem fnG_of {CX : CXT} {P : Program} {w : World} {K : PySem.W.Frag} {mg : Str → Option Value} {base : Heap} {k : Nat} {f : Addr} {x qual : Str} {st : Stmt} {fd : FuncData} {N ps : List Str} {sp : Sp}
    (F : Fun K x qual st f fd) (S : FnScope N ps (defScope st)) (len : ∀ vs H Q E, sp vs H Q E → vs.length = ps.length)
    (bd : ∀ (cdv : Value) (A : Around) (ou : List PySem.Env) (s : Shared) (H : Hp) (vs : List V) (Q : VK) (E : XK), Room k (A.deeper (envOfC qual (defScope st) s.heap.objs.size f cdv)) → A.guards = some [] → sp vs H Q E →
      ∃ t, PSs (cxOf CX P w K mg base N qual (defScope st) f cdv A ou s H E) (defBody st) t ∧ t { nx := fun _ H' => Q .non H', rt := Q } (start N vs) H) :
    FnG P w K mg base CX (k + 1) f fd ps sp := by
  obtain ⟨oc, od, kV, doc, pm, an, cdv, ct, osl, rfl, lk, hcd⟩ := F.ex
  refine ⟨len, fun A ou s H ar us vs Q E room gs e0 bi rel asked => ?_⟩
  have mk := e0.mod.kin
  have inK : K.In s.heap := mk.keeps fun b o e => (e0.bs b o e).1
  have noL : s.heap.NoLimit := e0.mod.nolimit.keeps fun b o e => (e0.bs b o e).1
  refine codeAny_call_function room.depth (inK _ _ lk) rfl S.co S.gen rfl (PySem.W.codeRec_of inK hcd) (bi _ _ _ _ ?_)
  refine wpAny_newFunctionEnv_cells S.kind (fun y hy => ?_) fun env he s1 x => ?_
  · cases S.par y.1 (List.of_mem_zip (a := y.1) (b := y.2) hy).1 with
    | inl q => exact .inl q
    | inr q => exact .inr ⟨q, PySem.W.cellsFrom_some _ _ _ (.inl q)⟩
  · subst he
    refine ⟨noL.keeps x.toInCall.keep, codeAny_func ?_⟩
    obtain ⟨t, runs, ask⟩ := bd cdv A ou s H vs Q E (room.deeper _) gs asked
    have J := inv_start (CX := CX) (mg := mg) (base := base) (E := E) S room.hd e0 (len _ _ _ _ asked) rel x
    refine wpAny_mono (runs.run [] s1 _ H _ J ask) (fun fl s' got => ?_) fun _ _ got => got
    cases fl with
    | ret u =>
      obtain ⟨v, σ', H', J', rv, q⟩ := got
      exact ⟨v, H', J'.os, J'.bare, J'.base, J'.hok, rv, q⟩
    | next =>
      obtain ⟨σ', H', J', q⟩ := got
      exact ⟨.non, H', J'.os, J'.bare, J'.base, J'.hok, rfl, q⟩
    | brk =>
      obtain ⟨_, _, _, q⟩ := got
      exact q.elim
    | cont =>
      obtain ⟨_, _, _, q⟩ := got
      exact q.elim
section
variable {X : Cx} {CX : CXT} {k : Nat} {f : Addr} {fd : FuncData} {ps : List Str} {sp : Sp} {EX : L2.St → XK} {x : Str} {p pos : Pos} {e : Expr} {es : List Expr} {t : TA}
theorem run_G {pins : List (Addr × Obj)} {σ : L2.St} {H : Hp} {s : Shared} {Q : VK} {us : List Value} {vs : List V} (F : FnG X.prog X.w X.K X.mg X.base CX k f fd ps sp) (hr : Room k X.A) (gs : X.A.guards = some [])
    (hb : Binds X.K fd ps []) (hx : PassesAt CX X σ (EX σ)) (I : Inv X pins σ H s) (r : Vals vs us) (h : sp vs H Q (EX σ)) :
    wpAny (model X.prog X.w) X.A (call (.ref f) us) (EP X pins σ Q) X.xe s := by
  have many : us.length = ps.length := by
    rw [← r.length]
    exact F.len _ _ _ _ h
  have b := hb s us I.kIn (by simpa using many)
  rw [List.append_nil] at b
  have c := F.run X.A X.stack s H ⟨us, []⟩ us vs Q (EX σ) hr gs I.env0 b r h
  refine wpAny_call (codeAny_mono c fun res s' got => ?_)
  match res, got with
  | .error er, got => exact hx pins H s er s' I got
  | .ok (.ret u), got => exact I.after got
  | .ok .next, got => exact got.elim
  | .ok .brk, got => exact got.elim
  | .ok .cont, got => exact got.elim
/-- f(e, ..) -/
theorem pe_callG (F : FnG X.prog X.w X.K X.mg X.base CX k f fd ps sp) (hr : Room k X.A) (gs : X.A.guards = some []) (hg : Gl X x) (hm : X.mg x = some (.ref f))
    (hk : PySem.W.keepIn X.K (.ref f) = true) (hb : Binds X.K fd ps []) (hx : ∀ σ, PassesAt CX X σ (EX σ)) (ha : PA X (e :: es) t) (hdb : (x == ("__debug__" : Str)) = false)
    (he : starEach (e :: es) X.env = (false, eval e X.env) :: starEach es X.env) (hpl : (backTo pos (starEach es X.env)).any (·.1) = false) : PE X (.Call (.Name x p) (e :: es) [] pos) (tCallS sp EX t) :=
  ⟨fun pins s σ H Q I h => wpAny_Call_Name_kw (ld_glob I hg hm (PySem.W.callWith_K (h₀ := X.base) I.ok.mod.kin hk
    (thn (ha.run pos pins s σ H _ I h) fun us s1 ⟨vs, H1, I1, r, q⟩ => ⟨I1.kIn, run_G F hr gs hb (hx σ) I1 r q⟩) he hpl) hdb)⟩
theorem pe_callG0 (F : FnG X.prog X.w X.K X.mg X.base CX k f fd ps sp) (hr : Room k X.A) (gs : X.A.guards = some []) (hg : Gl X x) (hm : X.mg x = some (.ref f))
    (hk : PySem.W.keepIn X.K (.ref f) = true) (hb : Binds X.K fd ps []) (hx : ∀ σ, PassesAt CX X σ (EX σ)) (hdb : (x == ("__debug__" : Str)) = false) : PE X (.Call (.Name x p) [] [] pos) (tCallS sp EX tNil) :=
  ⟨fun pins s σ H Q I h => wpAny_Call_Name_kw (ld_glob I hg hm (PySem.W.callWith_K0 I.kIn hk (run_G (us := []) F hr gs hb (hx σ) I .nil h)) hdb)⟩
end
/-- the law's call, at the heap that the top has left -/
theorem law_G {P : Program} {w : World} {K : PySem.W.Frag} {mg mb : Str → Option Value} {CX : CXT} {k : Nat} {fa a : Addr} {fd : FuncData} {x : Str} {sp : Sp} {s1 : Shared} {vs : List Value} {ns : List Int}
    (kin : K.In s1.heap) (nsm : s1.heap.Ns mainGlobals mg) (nsb : s1.heap.Ns builtinsNs mb) (bb : ∀ x : Str, x ≠ "__name__" → mb x = bootBuiltins x) (noL : s1.heap.NoLimit) (gens : s1.gens = #[])
    (la : s1.heap.get? a = some { cls := .type "list", data := .seq vs.toArray }) (li : IntsAre vs ns) (ln : ns.length ≤ sizeLine) (room : Room k callerA) (gs : callerA.guards = some [])
    (F : ∀ base : Heap, K.In base → base.Ns mainGlobals mg → FnG P w K mg base CX k fa fd [x] sp) (bi : Binds K fd [x] []) (nl : ∀ a o, K.lookup a = some o → o.cls ≠ .type "list")
    (asks : ∀ (H : Hp) (ob : Obj), H a = some (.frz ob (.lst (ns.map V.int))) → sp [.ref a] H (fun v _ => v = .bl true) E0) (noX : ∀ H e s', CX [] H s1 E0 e s' → False) :
    codeAny (model P w) callerA (.call (.ref fa) ⟨[.ref a], []⟩) (fun r s' => r = .ok (.ret (.bool true)) ∧ OldK s1.heap s'.heap ∧ s'.os = s1.os ∧ AllBare s'.gens) s1 := by
  have rel : Vals (ns.map V.int) vs := vals_ints li
  have hk : K.lookup a = none := by
    cases hk : K.lookup a with
    | none => rfl
    | some o =>
      have e := kin a o hk
      rw [la] at e
      cases e
      exact (nl a _ hk rfl).elim
  obtain ⟨H, hit, miss⟩ : ∃ H : Hp, H a = some (.frz { cls := .type "list", data := .seq vs.toArray } (.lst (ns.map V.int))) ∧ ∀ b, b ≠ a → H b = none :=
    ⟨fun b => if b = a then some (.frz { cls := .type "list", data := .seq vs.toArray } (.lst (ns.map V.int))) else none, if_pos rfl, fun b e => if_neg e⟩
  have atA : ∀ b, H b ≠ none → b = a := fun b z => Classical.byContradiction fun e => z (miss b e)
  have hok : HOk P w H s1.heap := fun b u z => by
    rcases Classical.em (b = a) with e | e
    · subst e
      rw [hit] at z
      cases z
      exact ⟨la, by rw [List.length_map]; exact ln, vs, _, rel, la⟩
    · rw [miss b e] at z
      cases z
  have keepB : ∀ {b : Addr} {o : Obj}, s1.heap.get? b = some o → H b = none → (hidT s1.heap H).get? b = some o := fun e n => hidT_get e n
  have noD : ∀ {b : Addr} {o : Obj} {es : Array DictEntry} {ep : Nat}, s1.heap.get? b = some o → o.data = .dict es ep → H b = none := fun {b o es ep} e d => by
    cases q : H b with
    | none => rfl
    | some u =>
      obtain rfl := atA b (by rw [q]; simp)
      rw [la] at e
      cases e
      exact nomatch (show Data.seq vs.toArray _ = Data.dict es ep from d)
  have keepN : ∀ {b : Addr} {m : Str → Option Value}, s1.heap.Ns b m → (hidT s1.heap H).Ns b m := fun ⟨o, es, ep, e, d, r⟩ => ⟨o, es, ep, keepB e (noD e d), d, r⟩
  have kinB : K.In (hidT s1.heap H) := fun b o e => keepB (kin b o e) (by
    cases q : H b with
    | none => rfl
    | some u =>
      obtain rfl := atA b (by rw [q]; simp)
      rw [hk] at e
      cases e)
  obtain ⟨mc, l1, l2⟩ := noL
  have modl : Mod K mg (hidT s1.heap H) := ⟨kinB, keepN nsm, ⟨mb, keepN nsb, bb⟩, mc, keepN l1, l2⟩
  have e0 : Env0 P w K mg (hidT s1.heap H) callerA [] s1 H :=
    ⟨rfl, modl, fun b o e => of_hidT e, Nat.le_of_eq (hidT_size _ _), trivial, fun b hb => (List.not_mem_nil (show b ∈ ([] : List Addr) from hb)).elim, hok, .of_eq gens⟩
  have run := (F _ kinB (keepN nsm)).run callerA [] s1 H ⟨[.ref a], []⟩ [.ref a] [.ref a] _ _ room gs e0 (bi s1 [.ref a] kin rfl) (.cons rfl .nil) (asks H _ hit)
  refine codeAny_mono run fun r s' h => ?_
  match r, h with
  | .error e, h => exact (noX H e s' h).elim
  | .ok .next, h => exact False.elim h
  | .ok .brk, h => exact False.elim h
  | .ok .cont, h => exact False.elim h
  | .ok (.ret u), h =>
    obtain ⟨v, H', os, bare, un, hok', r', q⟩ := h
    obtain rfl : v = .bl true := q
    obtain rfl : u = Value.bool true := r'
    refine ⟨rfl, OldK.of_keep fun b o e => ?_, os, bare⟩
    rcases Classical.em (b = a) with z | z
    · subst z
      have y1 := (hok b _ hit).1
      have y2 := (hok' b _ (un.frzs b _ _ hit)).1
      rw [e] at y1
      cases y1
      exact y2
    · exact un.keep b o e (miss b z) (fun y => List.not_mem_nil (show b ∈ ([] : List Addr) from y)) (by simp)
/-- the end of a law row -/
theorem walk_G {l : PySem.W.OpenLaw} {n k : Nat} {q : Program} {loose : List Str} {XP : (Str → Option Value) → Heap → Prop} {YP : World → Heap → Prop} {d : DefRec} {K : Params → PySem.W.Frag} {CX : World → CXT} {sp : World → Sp} {x : Str}
    (hn : l.most = some n) (hn2 : n ≤ sizeLine) (hdf : d.params.defaults = []) (hr : Room k callerA) (gs : callerA.guards = some []) (hY : ∀ (w : World) (h : Heap), YP w h → (K w.params).In h)
    (F : ∀ (w : World) (mg : Str → Option Value) (fa : Addr) (h : Heap), (K w.params).In h → h.Ns mainGlobals mg → mg d.name = some (.ref fa) →
      ∃ fd : FuncData, Binds (K w.params) fd [x] [] ∧ ∀ base : Heap, (K w.params).In base → base.Ns mainGlobals mg → FnG l.prog w (K w.params) mg base (CX w) k fa fd [x] (sp w))
    (nl : ∀ (w : World) a o, (K w.params).lookup a = some o → o.cls ≠ .type "list") (asks : ∀ (w : World) (H : Hp) (a : Addr) (ob : Obj) (ns : List Int), ns.length ≤ n → H a = some (.frz ob (.lst (ns.map V.int))) → sp w [.ref a] H (fun v _ => v = .bl true) E0)
    (noX : ∀ (w : World) (H : Hp) (s : Shared) (e : Value) (s' : Shared), CX w [] H s E0 e s' → False) :
    PySem.W.WalkO q loose XP YP l.row.toRowW d [] (fun f vs => PySem.call f vs) :=
  Att.attach_call hn hdf fun w s₀ s1 mg mb fa o pm cd doc a vs ns G Y ho hd hcd hmg la li ln gens => by
    have kin := hY w _ Y
    obtain ⟨fd, bi, hF⟩ := F w mg fa _ kin G.T.g hmg
    exact law_G kin G.T.g G.T.b G.T.builtins G.T.nolimit gens la li (Nat.le_trans ln hn2) hr gs hF bi (nl w) (fun H ob h => asks w H a ob ns ln h) fun H e s' => noX w H s1 e s'
end MP
end MFun

section MSnd
set_option Elab.async false
set_option linter.all false
set_option maxRecDepth 100000
set_option autoImplicit false
set_option maxHeartbeats 1000000
/-! MSnd: what MPy's evaluator says of an expression, the machine does. -/
namespace MP
open PySem PySem.Spec PyProof.Rows L2
variable {Fx : FX} {Ef : L2.St → FX} {Xp : Exc → Store → Prop}

/-! ### more of runs in the world -/
section
variable {α β γ δ : Type} {W0 W : Wd} {H0 H : Hp} {R : Hp → Wd → Hp → β → α → Prop} {R1 : Hp → Wd → Hp → δ → γ → Prop} {st : Store} {Q Q' : β → Hp → Prop}
theorem At.move {m : M α} {W' : Wd} (h : At Fx W0 H0 R m W H st Q) (x : Ext W0 H0 W' H) (g : Gd W' st H) : At Fx W0 H0 R m W' H st Q := ⟨x, g, h.2.2⟩
/-- a value kept: what was just made becomes data -/
theorem keep_own {d : D} {v : V} {W' : Wd} {H' : Hp} (r : DR H0 W H v d) (x : Ext W0 H0 W H) (g : Gd W st H) :
    ∃ W2, Ext W0 H0 W2 H ∧ Gd W2 st H ∧ DE W2 H v (keep d) ∧ (∀ ρ σ, EnvR W H ρ σ → EnvR W2 H ρ σ) ∧ (∀ u e, DE W H u e → DE W2 H u e) := by
  cases d with
  | dat d => exact ⟨W, x, g, r, fun _ _ h => h, fun _ _ h => h⟩
  | ref i => exact ⟨W, x, g, r, fun _ _ h => h, fun _ _ h => h⟩
  | newL xs =>
    obtain ⟨p, vs, rfl, hp, l, n, q⟩ := r
    exact ⟨W.addI p, x.own n, g.own l, .lst (.inl rfl) (.inl hp) q.own, fun _ _ h => h.own, fun _ _ h => h.own⟩
  | newD t kvs =>
    obtain ⟨p, rfl, l, n, q⟩ := r
    refine ⟨W.addI p, x.own n, g.own l, ?_, fun _ _ h => h.own, fun _ _ h => h.own⟩
    cases t with
    | false =>
      obtain ⟨ks, e, k⟩ := q
      exact .dctK (.inl rfl) e (k.mono (fun _ h => .inr h) fun _ _ _ e => e)
    | true =>
      obtain ⟨ks, e, k⟩ := q
      exact .dctT (.inl rfl) e (k.mono (fun _ h => .inr h) fun _ _ _ e => e)
/-- a value that comes to stand in data -/
theorem At.settle {d : D} {v : V} {k : PyData → M α} (h : At Fx W0 H0 R (settle d >>= k) W H st Q) (r : DR H0 W H v d) :
    ∃ u W2 st2, Dv W2.im H v u ∧ (∀ ρ σ, EnvR W H ρ σ → EnvR W2 H ρ σ) ∧ (∀ u e, DE W H u e → DE W2 H u e) ∧ (∀ u e, DvAll W.im H u e → DvAll W2.im H u e) ∧ At Fx W0 H0 R (k u) W2 H st2 Q := by
  obtain ⟨x, g, w⟩ := h
  rw [wp_bind] at w
  cases d with
  | dat d => exact ⟨d, W, st, r, fun _ _ h => h, fun _ _ h => h, fun _ _ h => h, x, g, w⟩
  | ref i =>
    obtain ⟨a, ha, rfl⟩ := r
    obtain ⟨xs, hx, w⟩ := wp_settleR.mp w
    obtain ⟨_, vs, hv, q⟩ := g.live hx ha
    exact ⟨.list xs, W.addI a, _, .lst (.inl rfl) (.inl hv) q.own, fun _ _ h => h.own, fun _ _ h => h.own, fun _ _ h => h.own, x.still (List.mem_of_getElem? ha), g.still ha, w⟩
  | newL xs =>
    obtain ⟨p, vs, rfl, hp, l, n, q⟩ := r
    exact ⟨.list xs, W.addI p, st, .lst (.inl rfl) (.inl hp) q.own, fun _ _ h => h.own, fun _ _ h => h.own, fun _ _ h => h.own, x.own n, g.own l, w⟩
  | newD t kvs =>
    obtain ⟨p, rfl, l, n, q⟩ := r
    refine ⟨.dict kvs, W.addI p, st, ?_, fun _ _ h => h.own, fun _ _ h => h.own, fun _ _ h => h.own, x.own n, g.own l, w⟩
    cases t with
    | false =>
      obtain ⟨ks, e, k⟩ := q
      exact .dctK (.inl rfl) e (k.mono (fun _ h => .inr h) fun _ _ _ e => e)
    | true =>
      obtain ⟨ks, e, k⟩ := q
      exact .dctT (.inl rfl) e (k.mono (fun _ h => .inr h) fun _ _ _ e => e)
theorem DE.dr' {v : V} {H9 : Hp} {d : D} (h : DE W H v d) : DR H9 W H v d := h.dr
theorem At.looks {k : List PyData → M α} : ∀ {ds : List D} {vs : List V}, At Fx W0 H0 R (looks ds >>= k) W H st Q → Paired (DE W H) vs ds → ∃ us, Paired (fun v u => Vw W H v u) vs us ∧ At Fx W0 H0 R (k us) W H st Q
  | [], _, h, .nil => ⟨[], .nil, h⟩
  | d :: ds, v :: vs, h, .cons r t => by
    have h' : At Fx W0 H0 R (do
      let x ← MP.look d
      let xs ← MP.looks ds
      k (x :: xs)) W H st Q := by
      obtain ⟨x, g, w⟩ := h
      refine ⟨x, g, ?_⟩
      unfold MP.looks at w
      simp only [wp_bind, wp_pure] at w ⊢
      exact w
    obtain ⟨u, hu, h'⟩ := h'.look (r.dr (H0 := H0))
    obtain ⟨us, hus, h'⟩ := At.looks h' t
    exact ⟨u :: us, .cons hu hus, h'⟩
theorem At.assoc {m : M γ} {f : γ → M δ} {k : δ → M α} (h : At Fx W0 H0 R ((m >>= f) >>= k) W H st Q) : At Fx W0 H0 R (m >>= fun a => f a >>= k) W H st Q := by
  obtain ⟨x, g, w⟩ := h
  refine ⟨x, g, ?_⟩
  simp only [wp_bind] at w ⊢
  exact w
theorem At.asInt {d : D} {v : V} {k : Int → M α} {H9 : Hp} (h : At Fx W0 H0 R (asInt d >>= k) W H st Q) (r : DR H9 W H v d) : ∃ i, v = .int i ∧ At Fx W0 H0 R (k i) W H st Q := by
  obtain ⟨u, hu, h⟩ := At.look (At.assoc h) r
  obtain ⟨i, e, h⟩ := h.ofO
  cases u <;> first | (cases e; done) | skip
  cases e
  exact ⟨_, hu.int, h⟩
theorem At.asBool {d : D} {v : V} {k : Bool → M α} {H9 : Hp} (h : At Fx W0 H0 R (asBool d >>= k) W H st Q) (r : DR H9 W H v d) : ∃ i, v = .bl i ∧ At Fx W0 H0 R (k i) W H st Q := by
  obtain ⟨u, hu, h⟩ := At.look (At.assoc h) r
  obtain ⟨i, e, h⟩ := h.ofO
  cases u <;> first | (cases e; done) | skip
  cases e
  exact ⟨_, hu.bool, h⟩
theorem At.refOf {d : D} {v : V} {k : Nat → M α} {H9 : Hp} (h : At Fx W0 H0 R (MP.refOf d >>= k) W H st Q) (r : DR H9 W H v d) : ∃ i a, d = .ref i ∧ W.eta[i]? = some a ∧ v = .ref a ∧ At Fx W0 H0 R (k i) W H st Q := by
  cases d with
  | ref i =>
    obtain ⟨a, ha, rfl⟩ := r
    exact ⟨i, a, rfl, ha, rfl, h⟩
  | _ => exact h.2.2.elim
theorem At.cellAt {i : Nat} {a : Addr} {k : List PyData → M α} (h : At Fx W0 H0 R (MP.cellAt i >>= k) W H st Q) (ha : W.eta[i]? = some a) : ∃ xs vs, st[i]? = some (.lst xs) ∧ ¬ W.im a ∧ H a = some (.lst vs) ∧ DvAll W.im H vs xs ∧ At Fx W0 H0 R (k xs) W H st Q := by
  obtain ⟨x, g, w⟩ := h
  rw [wp_bind] at w
  obtain ⟨xs, hx, w⟩ := wp_cellAt.mp w
  obtain ⟨n, vs, hv, q⟩ := g.live hx ha
  exact ⟨xs, vs, hx, n, hv, q, x, g, w⟩
/-- a cell is written -/
theorem At.putCell {i : Nat} {a : Addr} {c : Cell} {o : HO} {k : Unit → M α} (h : At Fx W0 H0 R (MP.putCell i c >>= k) W H st Q) (ha : W.eta[i]? = some a) (n : ¬ W.im a) (hc : CellOk W (upd H a o) a c) : At Fx W0 H0 R (k ()) W (upd H a o) (st.set i c) Q := by
  obtain ⟨x, g, w⟩ := h
  rw [wp_bind] at w
  exact ⟨x.write (List.mem_of_getElem? ha) n, g.write ha n hc, wp_putCell.mp w⟩
theorem At.bindPure {m : M α} (h : At Fx W0 H0 R (m >>= fun a => Pure.pure a) W H st Q) : At Fx W0 H0 R m W H st Q := by
  obtain ⟨x, g, w⟩ := h
  refine ⟨x, g, ?_⟩
  simp only [wp_bind, wp_pure] at w
  exact w
theorem At.toBind {m : M α} (h : At Fx W0 H0 R m W H st Q) : At Fx W0 H0 R (m >>= fun a => Pure.pure a) W H st Q := by
  obtain ⟨x, g, w⟩ := h
  refine ⟨x, g, ?_⟩
  simp only [wp_bind, wp_pure]
  exact w
end
abbrev RAs : Hp → Wd → Hp → List V → List D → Prop := fun _ W H vs ds => Paired (DE W H) vs ds
section
variable {σ : L2.St} {H : Hp}
theorem _root_.L2.PE.imp {X : Cx} {e : Expr} {t t' : TE} (h : PE X e t) (i : ∀ σ H Q, t' σ H Q → t σ H Q) : PE X e t' := ⟨fun pins s σ H Q I w => h.run pins s σ H Q I (i _ _ _ w)⟩
theorem _root_.L2.PT.imp {X : Cx} {e : Expr} {t t' : TT} (h : PT X e t) (i : ∀ σ H Q, t' σ H Q → t σ H Q) : PT X e t' := ⟨fun pins s σ H Q I w => h.run pins s σ H Q I (i _ _ _ w)⟩
theorem _root_.L2.PA.imp {X : Cx} {e : List Expr} {t t' : TA} (h : PA X e t) (i : ∀ σ H Q, t' σ H Q → t σ H Q) : PA X e t' := ⟨fun pos pins s σ H Q I w => h.run pos pins s σ H Q I (i _ _ _ w)⟩
theorem _root_.L2.PO.imp {X : Cx} {e : Option Expr} {t t' : TO} (h : PO X e t) (i : ∀ σ H Q, t' σ H Q → t σ H Q) : PO X e t' := ⟨fun pins s σ H Q I w => h.run pins s σ H Q I (i _ _ _ w)⟩
theorem _root_.L2.PTs.imp {X : Cx} {e : List Expr} {t t' : TT} (h : PTs X e t) (i : ∀ σ H Q, t' σ H Q → t σ H Q) : PTs X e t' := ⟨fun pins s σ H Q I w => h.run pins s σ H Q I (i _ _ _ w)⟩
theorem _root_.L2.PI.imp {X : Cx} {tg e : Expr} {t t' : TI} (h : PI X tg e t) (i : ∀ σ H Q, t' σ H Q → t σ H Q) : PI X tg e t' := ⟨fun pins s σ H Q I w => h.run pins s σ H Q I (i _ _ _ w)⟩
theorem _root_.L2.PG.imp {X : Cx} {e : Expr} {t t' : TG} (h : PG X e t) (i : ∀ v σ H Q, t' v σ H Q → t v σ H Q) : PG X e t' := ⟨fun pins s σ H v u Q I r w => h.run pins s σ H v u Q I r (i _ _ _ _ w)⟩
theorem _root_.L2.PGs.imp {X : Cx} {e : List Expr} {t t' : TGs} (h : PGs X e t) (i : ∀ v σ H Q, t' v σ H Q → t v σ H Q) : PGs X e t' := ⟨fun pins s σ H v u Q I r w => h.run pins s σ H v u Q I r (i _ _ _ _ w)⟩
theorem _root_.L2.PS.imp {X : Cx} {e : Stmt} {t t' : TS} (h : PS X e t) (i : ∀ D σ H, t' D σ H → t D σ H) : PS X e t' := ⟨fun pins s σ H D I w => h.run pins s σ H D I (i _ _ _ w)⟩
theorem _root_.L2.PSs.imp {X : Cx} {e : List Stmt} {t t' : TS} (h : PSs X e t) (i : ∀ D σ H, t' D σ H → t D σ H) : PSs X e t' := ⟨fun pins s σ H D I w => h.run pins s σ H D I (i _ _ _ w)⟩
/-- one value, then what is done with it -/
theorem rG_then {α β : Type} {R : Hp → Wd → Hp → β → α → Prop} {m1 : Env → M D} {k : D → Env → M α} {Q : β → Hp → Prop} (h : rG Ef R (fun ρ => m1 ρ >>= fun d => k d ρ) σ H Q) :
    rG Ef DR m1 σ H fun v H1 => ∃ W ρ d W1 st1, EnvR W H ρ σ ∧ Ext W H W1 H1 ∧ DR H W1 H1 v d ∧ At (Ef σ) W H R (k d ρ) W1 H1 st1 Q := by
  obtain ⟨W, ρ, st, er, h⟩ := h
  exact ⟨W, ρ, st, er, (At.bind (R1 := DR) h).mono fun b H' ⟨a, W1, st1, x, r, h'⟩ => ⟨W, ρ, a, W1, st1, er, x, r, h'⟩⟩
theorem rG_two {α β : Type} {R : Hp → Wd → Hp → β → α → Prop} {m1 m2 : Env → M D} {k : D → D → Env → M α} {Q : β → Hp → Prop} (h : rG Ef R (fun ρ => m1 ρ >>= fun d => m2 ρ >>= fun e => k d e ρ) σ H Q) :
    rG Ef DR m1 σ H fun v H1 => rG Ef DR m2 σ H1 fun u H2 => ∃ W ρ d e W2 st2, EnvR W H ρ σ ∧ Ext W H W2 H2 ∧ DR H W2 H2 v d ∧ DR H W2 H2 u e ∧ At (Ef σ) W H R (k d e ρ) W2 H2 st2 Q := by
  obtain ⟨W, ρ, st, er, h⟩ := h
  refine ⟨W, ρ, st, er, (At.bind (R1 := DR) h).mono ?_⟩
  rintro v H1 ⟨d, W1, st1, x1, r1, h1⟩
  refine ⟨W1, ρ, st1, er.mono x1, (At.bind (R1 := DR) h1).mono ?_⟩
  rintro u H2 ⟨e, W2, st2, x2, r2, h2⟩
  exact ⟨W, ρ, d, e, W2, st2, er, x1.trans x2, r1.mono x2, r2.base fun p n => x1.fresh n, h2⟩
theorem rG_bin {f : PyData → PyData → Option D} {m1 m2 : Env → M D} {Q : V → Hp → Prop} (h : rG Ef DR (fun ρ => do
      let x ← m1 ρ
      let y ← m2 ρ
      let u ← look x
      let v ← look y
      ofO (f u v)) σ H Q) : tOp (rV2 f) (rG Ef DR m1) (rG Ef DR m2) σ H Q := by
  obtain ⟨W, ρ, st, er, h'⟩ := rG_two h
  refine ⟨W, ρ, st, er, h'.mono fun v H1 ⟨W1, ρ1, st1, er1, h1⟩ => ⟨W1, ρ1, st1, er1, h1.mono ?_⟩⟩
  rintro u H2 ⟨W', ρ', d, e, W2, st2, _, _, r1, r2, h2⟩
  exact rV2.of_at h2 r1 r2
theorem rG_test {m : Env → M D} {Q : Bool → Hp → Prop} (h : rG Ef REq (fun ρ => m ρ >>= asBool) σ H Q) : rG Ef DR m σ H fun v H' => ∃ k, v = .bl k ∧ Q k H' := by
  obtain ⟨W, ρ, st, er, h'⟩ := rG_then h
  refine ⟨W, ρ, st, er, h'.mono ?_⟩
  rintro v H1 ⟨W', ρ', d, W1, st1, _, x1, r1, h1⟩
  obtain ⟨i, e, h2⟩ := h1.toBind.asBool r1
  exact ⟨i, e, h2.pure _ _ _ h2.1 h2.2.1 rfl⟩
end

/-! ### what is known where a def's body runs -/
/-- how an exception stands in the heap -/
abbrev XR := (Addr → Prop) → Hp → Exc → Value → Option Addr → Prop
def efOf (xr : XR) (EX : L2.St → XK) : L2.St → FX := fun σ W H x => ∀ c d, xr W.im H x c d → EX σ c d H
/-- what MPy's run of def f says -/
def spOf (xr : XR) (C : Ctx) (f : Nat) : Sp := fun vs H Q E => ∃ W st args, Gd W st H ∧ Paired (DE W H) vs args ∧
  wp (XAt (fun W' H' x => ∀ c d, xr W'.im H' x c d → E c d H') W H) (C.call f args) st fun d st' => ∀ W' H' v, Ext W H W' H' → Gd W' st' H' → DR H W' H' v d → Q v H'
structure XOk (T : Tab) (xr : XR) (CX : CXT) (EX : L2.St → XK) (C : Ctx) (k : Nat) (X : Cx) (N : List Str) (sc : Scope) (fq : Str → Bool) : Prop where
  names : X.N = N
  nd : N.Nodup
  scope : X.env.scope = sc
  fn : X.fn = fq
  calm : X.calm = true
  room : Room k X.A
  gd : X.A.guards = some []
  px : ∀ σ, PassesAt CX X σ (EX σ)
  nx : ∀ o H s e s', CX o H s E0 e s' → False
  fns : ∀ f d, T.P[f]? = some d → ∃ fa fd, X.mg d.name = some (.ref fa) ∧ PySem.W.keepIn X.K (.ref fa) = true ∧ Binds X.K fd d.ps [] ∧ (∀ vs H Q E, spOf xr C f vs H Q E → vs.length = d.ps.length) ∧ FnG X.prog X.w X.K X.mg X.base CX k fa fd d.ps (spOf xr C f)
  bl : ∀ x ∈ builtinNames, X.mg x = none
  gl : ∀ p ∈ T.G, ∃ v u, X.mg p.1 = some u ∧ RelV v u ∧ Dv (fun _ => False) (fun _ => none) v p.2
theorem XOk.blk {T : Tab} {xr : XR} {CX : CXT} {EX : L2.St → XK} {C : Ctx} {k : Nat} {X : Cx} {N : List Str} {sc : Scope} {fq : Str → Bool} (x : XOk T xr CX EX C k X N sc fq) (s : Shared) (H : Hp) (scope : Scope) (c : Addr) (cl : List (Str × Addr)) (fp : List Addr) :
    XOk T xr CX (fun _ => E0) C k (X.blk s H scope (compEnvC scope cl c X.env) fp) N (blkSc scope sc) (fun x => scope.names.lookup x == some .cell) :=
  ⟨x.names, x.nd, by show relS scope X.env.scope = _; rw [x.scope]; rfl, rfl, x.calm, x.room, x.gd, fun _ _ _ _ _ _ _ z => (x.nx _ _ _ _ _ z).elim, x.nx, x.fns, x.bl, x.gl⟩
section
variable {T : Tab} {xr : XR} {CX : CXT} {EX : L2.St → XK} {C : Ctx} {k : Nat} {X : Cx} {N : List Str} {sc : Scope} {fq : Str → Bool} {e : Expr} {es : List Expr}
theorem star_cons (h : noStar e = true) : starEach (e :: es) X.env = (false, eval e X.env) :: starEach es X.env := by
  cases e <;> first | rfl | (cases h)
theorem XOk.gl' (x : XOk T xr CX EX C k X N sc fq) {n : Str} (h : gloB sc n = true) : Gl X n := by
  show X.env.scope.names.lookup n = some .globalImplicit
  rw [x.scope]
  unfold gloB at h
  split at h
  · assumption
  · cases h
theorem XOk.vis (x : XOk T xr CX EX C k X N sc fq) {n : Str} (h : visB sc n = true) : Vis X.env.scope n := by
  rw [x.scope]
  unfold visB at h
  split at h
  · exact .inl (by assumption)
  · exact .inr (.inl (by assumption))
  · exact .inr (.inr (by assumption))
  · cases h
theorem okName_of {n : Str} (h : okName n = true) : (n == ("__debug__" : Str)) = false ∧ (n == ("__classdict__" : Str)) = false ∧ n ≠ "__name__" := by
  unfold okName at h
  simp only [Bool.and_eq_true, Bool.not_eq_true', decide_eq_false_iff_not] at h
  exact ⟨h.1.1, h.1.2, h.2⟩
theorem nameIs_of {n : Str} (h : nameIs sc n e = true) : ∃ p, e = .Name n p ∧ gloB sc n = true := by
  unfold nameIs at h
  split at h
  · simp only [Bool.and_eq_true, decide_eq_true_eq] at h
    obtain ⟨rfl, h⟩ := h
    exact ⟨_, rfl, h⟩
  · cases h
theorem plainIx_of (h : noSlice e = true) : PlainIx e := fun o i => by
  cases e <;> first | rfl | (cases h)
theorem attr_plain {a : Str} {env : PySem.Env} (h : noCall0 e = true) : attributeBase e a env (eval e env) = eval e env := by
  unfold attributeBase
  split
  · cases h
  · rfl
theorem noMark {op : CmpOp} (h : noSet e = true) : behindInMarks op e = false := by
  cases e <;> first | rfl | (cases h)
theorem stars_none {pos : Pos} : ∀ {es : List Expr}, es.all noStar = true → (backTo pos (starEach es X.env)).any (·.1) = false
  | [], _ => rfl
  | e :: es, h => by
    rw [List.all_cons, Bool.and_eq_true] at h
    rw [star_cons h.1]
    show (false || (backTo pos (starEach es X.env)).any (·.1)) = false
    rw [stars_none h.2] <;> rfl
end
end MP
end MSnd

section MExp
set_option Elab.async false
set_option linter.all false
set_option maxRecDepth 100000
set_option autoImplicit false
set_option maxHeartbeats 2000000
/-! MExp: what MPy's evaluator says of an expression, the machine does. -/
namespace MP
open PySem PySem.Spec PyProof.Rows L2
variable {Fx : FX} {Ef : L2.St → FX} {Xp : Exc → Store → Prop}

section
variable {σ : L2.St} {H : Hp}
theorem At.rebase {α β : Type} {R : Hp → Wd → Hp → β → α → Prop} {W0 W : Wd} {H0 H : Hp} {m : M α} {st : Store} {Q : β → Hp → Prop} (hR : ∀ W' H' b a, R H W' H' b a → R H0 W' H' b a) (h : At Fx W0 H0 R m W H st Q) : At Fx W H R m W H st Q :=
  ⟨.refl, h.2.1, wp_mono2 h.2.2 (fun a s k W' H' b x g r => k W' H' b (h.1.trans x) g (hR _ _ _ _ r)) fun e s k W' H' x g => k W' H' (h.1.trans x) g⟩
theorem At.go {α β : Type} {R : Hp → Wd → Hp → β → α → Prop} {W0 W : Wd} {H0 H : Hp} {m : M α} {st : Store} {Q : β → Hp → Prop} {W' : Wd} {H' : Hp} (h : At Fx W0 H0 R m W H st Q) (x : Ext W0 H0 W' H') (g : Gd W' st H') : At Fx W0 H0 R m W' H' st Q := ⟨x, g, h.2.2⟩
theorem rG_congr {α β : Type} {R : Hp → Wd → Hp → β → α → Prop} {m m' : Env → M α} {Q : β → Hp → Prop} (i : ∀ Xp ρ st P, wp Xp (m ρ) st P → wp Xp (m' ρ) st P) (h : rG Ef R m σ H Q) : rG Ef R m' σ H Q := by
  obtain ⟨W, ρ, st, er, x, g, w⟩ := h
  exact ⟨W, ρ, st, er, x, g, i _ _ _ _ w⟩
/-- R may be begun earlier -/
def Early {α β : Type} (R : Hp → Wd → Hp → β → α → Prop) : Prop := ∀ (H0 H1 : Hp), (∀ p, H1 p = none → H0 p = none) → ∀ W' H' b a, R H1 W' H' b a → R H0 W' H' b a
theorem early_DR : Early DR := fun _ _ f _ _ _ _ r => r.base f
theorem early_eq {α : Type} : Early (REq (α := α)) := fun _ _ _ _ _ _ _ r => r
theorem rG_condV {α β : Type} {R : Hp → Wd → Hp → β → α → Prop} {m1 : Env → M D} {k : Bool → Env → M α} {Q : β → Hp → Prop} (hR : Early R) (h : rG Ef R (fun ρ => m1 ρ >>= fun x => asBool x >>= fun b => k b ρ) σ H Q) :
    rG Ef DR m1 σ H fun v H1 => ∃ c, v = .bl c ∧ rG Ef R (k c) σ H1 Q := by
  obtain ⟨W, ρ, st, er, h'⟩ := rG_then h
  refine ⟨W, ρ, st, er, h'.mono ?_⟩
  rintro v H1 ⟨W', ρ', d, W1, st1, er', x1, r1, h1⟩
  obtain ⟨i, e, h2⟩ := h1.asBool r1
  exact ⟨i, e, W1, ρ', st1, er'.mono x1, h2.rebase fun W' H' b a r => hR _ _ (fun p n => x1.fresh n) _ _ _ _ r⟩
theorem rG_cond {α β : Type} {R : Hp → Wd → Hp → β → α → Prop} {m1 : Env → M D} {k : Bool → Env → M α} {Q : β → Hp → Prop} (hR : Early R) (h : rG Ef R (fun ρ => m1 ρ >>= fun x => asBool x >>= fun b => k b ρ) σ H Q) :
    rG Ef REq (fun ρ => m1 ρ >>= asBool) σ H fun c H1 => rG Ef R (k c) σ H1 Q := by
  have h' : rG Ef R (fun ρ => (m1 ρ >>= asBool) >>= fun b => k b ρ) σ H Q := rG_congr (fun _ ρ st P w => by simp only [wp_bind] at w ⊢; exact w) h
  obtain ⟨W, ρ, st, er, h'⟩ := h'
  refine ⟨W, ρ, st, er, (At.bind (R1 := REq) h').mono ?_⟩
  rintro b H1 ⟨a, W1, st1, x1, r1, h1⟩
  subst r1
  exact ⟨W1, ρ, st1, er.mono x1, h1.rebase fun W' H' b a r => hR _ _ (fun p n => x1.fresh n) _ _ _ _ r⟩
theorem rG_pure {α : Type} {a : α} {β : Type} {R : Hp → Wd → Hp → β → α → Prop} {b : β} {Q : β → Hp → Prop} (h : rG Ef R (fun _ => pure a) σ H Q) (r : ∀ H0 W H, R H0 W H b a) : Q b H := by
  obtain ⟨W, ρ, st, er, h⟩ := h
  exact h.pure _ _ _ h.1 h.2.1 (r _ _ _)
theorem wp_and {C : Ctx} {a b : Ex} {ρ : Env} {st : Store} {P : Bool → Store → Prop} (w : wp Xp (evE C (.and a b) ρ >>= asBool) st P) :
    wp Xp (evE C a ρ >>= fun x => asBool x >>= fun k => (match k with
      | true => evE C b ρ >>= asBool
      | false => pure false)) st P := by
  simp only [evE, wp_bind] at w ⊢
  refine wp_mono w fun x s1 w1 => wp_mono w1 fun k s2 w2 => ?_
  cases k with
  | true => simp only [wp_bind] at w2 ⊢; exact w2
  | false => exact w2
theorem wp_or {C : Ctx} {a b : Ex} {ρ : Env} {st : Store} {P : Bool → Store → Prop} (w : wp Xp (evE C (.or a b) ρ >>= asBool) st P) :
    wp Xp (evE C a ρ >>= fun x => asBool x >>= fun k => (match k with
      | true => pure true
      | false => evE C b ρ >>= asBool)) st P := by
  simp only [evE, wp_bind] at w ⊢
  refine wp_mono w fun x s1 w1 => wp_mono w1 fun k s2 w2 => ?_
  cases k with
  | false => simp only [wp_bind] at w2 ⊢; exact w2
  | true => exact w2
theorem wp_not {C : Ctx} {a : Ex} {ρ : Env} {st : Store} {P : Bool → Store → Prop} (w : wp Xp (evE C (.not a) ρ >>= asBool) st P) :
    wp Xp (evE C a ρ >>= fun x => asBool x >>= fun k => pure (!k)) st P := by
  simp only [evE, wp_bind] at w ⊢
  exact wp_mono w fun x s1 w1 => wp_mono w1 fun k s2 w2 => w2
end
section
variable {T : Tab} {C : Ctx} {k : Nat} {X : Cx} {N : List Str} {sc : Scope} {fq : Str → Bool}
theorem PW.ofBool {X : Cx} {op : BoolOp} {es : List Expr} {p : Pos} {t : TT} (h : PT X (.BoolOp op es p) t) : PW X (.BoolOp op es p) t :=
  ⟨fun whole pins s σ H Q I w => by
    have e : isTrue (.BoolOp op es p) X.env whole = isTrue (.BoolOp op es p) X.env (eval (.BoolOp op es p) X.env) := by rfl
    rw [e]
    exact h.run pins s σ H Q I w⟩
theorem pt_plain {e : Expr} {t : TE} (h : PE X e t) (p : plainT e = true) : PT X e (tB t) := pt_val h fun whole => by
  cases e <;> first | rfl | skip
  all_goals first | (cases p; done) | skip
  rename_i op _ _
  cases op <;> first | rfl | (cases p; done)
/-- a plain expression as a test -/
theorem pt_of {e : Expr} {m : Env → M D} (h : PE X e (rG Ef DR m)) (p : plainT e = true) : PT X e (rG Ef REq (fun ρ => m ρ >>= asBool)) := PT.imp (pt_plain h p) fun σ H Q w => rG_test w
end
/-! ### single steps -/
section
variable {σ : L2.St} {H : Hp} {Q : V → Hp → Prop}
theorem rG_var {i : Nat} (h : rG Ef DR (fun ρ => ofO (match ρ[i]? with
    | some (some d) => some d
    | _ => none)) σ H Q) : tVar i σ H Q := by
  obtain ⟨W, ρ, st, er, h⟩ := h
  obtain ⟨d, e, h⟩ := h.ofO'
  have e' : ρ[i]? = some (some d) := by
    split at e
    · cases e; assumption
    · cases e
  obtain ⟨v, hv, r⟩ := er.2 i d e'
  exact ⟨v, hv, h.pure _ _ _ h.1 h.2.1 r.dr⟩
theorem rG_con {d : PyData} {v : V} (r : Dv (fun _ => False) (fun _ => none) v d) (h : rG Ef DR (fun _ => pure (.dat d)) σ H Q) : tC v σ H Q :=
  rG_pure h fun H0 W H => r.mono (fun _ z => z.elim) fun _ _ z => z.elim
theorem rG_neg {m : Env → M D} (h : rG Ef DR (fun ρ => m ρ >>= fun x => asInt x >>= fun i => pure (.dat (.int (-i)))) σ H Q) : tUn (rU fun i => .int (-i)) (rG Ef DR m) σ H Q := by
  obtain ⟨W, ρ, st, er, h'⟩ := rG_then h
  refine ⟨W, ρ, st, er, h'.mono ?_⟩
  rintro v H1 ⟨W', ρ', d, W1, st1, _, x1, r1, h1⟩
  obtain ⟨i, e, h2⟩ := h1.asInt r1
  exact ⟨i, e, h2.pure _ _ _ h2.1 h2.2.1 (.int _)⟩
theorem rG_chain {o1 o2 : Cop} {m1 m2 m3 : Env → M D} (h : rG Ef DR (fun ρ => do
      let x ← m1 ρ
      let y ← m2 ρ
      let u ← look x
      let v ← look y
      let r ← ofO (copV o1 u v)
      match r with
      | true => do
        let z ← m3 ρ
        let v' ← look y
        let w ← look z
        let r' ← ofO (copV o2 v' w)
        pure (.dat (.bool r'))
      | false => pure (.dat (.bool false))) σ H Q) :
    tChain (rV2 fun x y => bolO (copV o1 x y)) (rV2 fun x y => bolO (copV o2 x y)) (rG Ef DR m1) (rG Ef DR m2) (rG Ef DR m3) σ H Q := by
  obtain ⟨W, ρ, st, er, h'⟩ := rG_two h
  refine ⟨W, ρ, st, er, h'.mono fun v H1 ⟨W1, ρ1, st1, er1, h1⟩ => ⟨W1, ρ1, st1, er1, h1.mono ?_⟩⟩
  rintro y H2 ⟨Wb, ρ', d, e, W2, st2, er', x2, r1, r2, h2⟩
  obtain ⟨u, hu, h3⟩ := h2.look r1
  obtain ⟨v', hv, h4⟩ := h3.look r2
  obtain ⟨r, er1', h5⟩ := h4.ofO
  refine ⟨W2, H2, W2, st2, u, v', .dat (.bool r), ⟨.refl, h5.2.1⟩, hu, hv, by show bolO _ = _; rw [er1'] <;> rfl, ?_⟩
  intro W3 H3 z x3 g3 rz
  cases rz
  refine ⟨r, rfl, ?_⟩
  cases r with
  | false =>
    rw [if_neg (by decide)]
    exact h5.pure _ _ _ (h5.1.trans x3) g3 (.bl _)
  | true =>
    rw [if_pos rfl]
    have h6 := (h5.go (h5.1.trans x3) g3)
    refine ⟨W3, ρ', st2, (er'.mono x2).mono x3, (At.bind (R1 := DR) h6).mono ?_⟩
    rintro z H4 ⟨dz, W4, st4, x4, rz, h7⟩
    refine rV2.of_at (Fx := Ef σ) (W0 := Wb) (H0 := H) (st := st4) (d1 := e) (d2 := dz) (f := fun x y => bolO (copV o2 x y)) ?_ (r2.mono (x3.trans x4)) rz
    obtain ⟨a1, a2, a3⟩ := h7
    refine ⟨a1, a2, ?_⟩
    simp only [wp_bind] at a3 ⊢
    refine wp_mono a3 fun a s k => wp_mono k fun b s' k' => ?_
    obtain ⟨c, ec, k'⟩ := wp_ofO.mp k'
    refine wp_ofO.mpr ⟨.dat (.bool c), by rw [ec] <;> rfl, k'⟩
theorem rG_two' {α β : Type} {R : Hp → Wd → Hp → β → α → Prop} {m1 m2 : Env → M D} {k : D → D → Env → M α} {Q : β → Hp → Prop} (h : rG Ef R (fun ρ => m1 ρ >>= fun d => m2 ρ >>= fun e => k d e ρ) σ H Q) :
    rG Ef DR m1 σ H fun v H1 => rG Ef DR m2 σ H1 fun u H2 => ∃ W ρ d e W2 st2 H9, EnvR W2 H2 ρ σ ∧ Ext W H W2 H2 ∧ DR H W2 H2 v d ∧ DR H W2 H2 u e ∧ H9 = H ∧ At (Ef σ) W H R (k d e ρ) W2 H2 st2 Q := by
  obtain ⟨W, ρ, st, er, h'⟩ := rG_two h
  refine ⟨W, ρ, st, er, h'.mono fun v H1 ⟨W1, ρ1, st1, er1, h1⟩ => ⟨W1, ρ1, st1, er1, h1.mono ?_⟩⟩
  rintro u H2 ⟨W', ρ', d, e, W2, st2, er', x2, r1, r2, h2⟩
  exact ⟨W', ρ', d, e, W2, st2, H, er'.mono x2, x2, r1, r2, rfl, h2⟩
theorem rG_slc {m : Env → M D} {ml mh : Env → M (Option Int)} (h : rG Ef DR (fun ρ => do
      let x ← m ρ
      let l ← ml ρ
      let h ← mh ρ
      let u ← look x
      ofO (cutV u l h)) σ H Q) : tSl rVS (rG Ef DR m) (rG Ef REq ml) (rG Ef REq mh) σ H Q := by
  obtain ⟨W, ρ, st, er, h⟩ := h
  refine ⟨W, ρ, st, er, (At.bind (R1 := DR) h).mono ?_⟩
  rintro v H1 ⟨d, W1, st1, x1, r1, h1⟩
  refine ⟨W1, ρ, st1, er.mono x1, (At.bind (R1 := REq) h1).mono ?_⟩
  rintro l H2 ⟨l', W2, st2, x2, rfl, h2⟩
  refine ⟨W2, ρ, st2, (er.mono x1).mono x2, (At.bind (R1 := REq) h2).mono ?_⟩
  rintro u H3 ⟨u', W3, st3, x3, rfl, h3⟩
  obtain ⟨w, hw, h4⟩ := h3.look (r1.mono (x2.trans x3))
  obtain ⟨d', e', h5⟩ := h4.ofO'
  exact ⟨W, H, W3, st3, w, d', ⟨h5.1, h5.2.1⟩, hw, e', h5.pure⟩
theorem rG_part {m : Env → M D} {Q : Option Int → Hp → Prop} (h : rG Ef REq (fun ρ => do
    let x ← m ρ
    let i ← asInt x
    pure (some i)) σ H Q) : tPart (rG Ef DR m) σ H Q := by
  obtain ⟨W, ρ, st, er, h'⟩ := rG_then h
  refine ⟨W, ρ, st, er, h'.mono ?_⟩
  rintro v H1 ⟨W', ρ', d, W1, st1, _, x1, r1, h1⟩
  obtain ⟨i, e, h2⟩ := h1.asInt r1
  exact ⟨i, e, h2.pure _ _ _ h2.1 h2.2.1 rfl⟩
theorem rG_lrng {m : Env → M D} (h : rG Ef DR (fun ρ => do
    let x ← m ρ
    let i ← asInt x
    guardB (small i)
    pure (.newL (rngL 0 i.toNat))) σ H Q) : tLstRg (tRg1 (rG Ef DR m)) σ H Q := by
  obtain ⟨W, ρ, st, er, h'⟩ := rG_then h
  refine ⟨W, ρ, st, er, h'.mono ?_⟩
  rintro v H1 ⟨W', ρ', d, W1, st1, _, x1, r1, h1⟩
  obtain ⟨i, e, h2⟩ := h1.asInt r1
  obtain ⟨hs, h3⟩ := h2.guard
  have hs' : -1000000 ≤ i ∧ i ≤ 1000000 := by simpa [small] using hs
  refine ⟨i, e, ⟨by omega, by omega, by omega, by omega, by omega⟩, fun q hq => ?_⟩
  have key : ∀ (n : Nat) (lo : Int), DvAll W1.im H1 ((List.range n).map fun j => V.int (lo + (j : Nat))) (rngL lo n) := fun n => by
    induction n with
    | zero => intro lo; exact .nil
    | succ n ih =>
      intro lo
      rw [List.range_succ_eq_map, List.map_cons, List.map_map]
      have e0 : (fun j : Nat => V.int (lo + (j : Nat))) ∘ Nat.succ = fun j : Nat => V.int ((lo + 1) + (j : Nat)) := by
        funext j
        show V.int (lo + ((j + 1 : Nat) : Int)) = _
        congr 1
        omega
      rw [e0]
      have e1 : V.int (lo + ((0 : Nat) : Int)) = V.int lo := by congr 1; omega
      rw [e1]
      exact .cons (.int lo) (ih (lo + 1))
  have k := key i.toNat 0
  have e2 : ((List.range i.toNat).map fun j => V.int (0 + ((j : Nat) : Int))) = rgV 0 i := by unfold rgV; rw [Int.sub_zero]
  rw [e2] at k
  exact Fin.lst (W0 := W') (H0 := H) (st := st1) (W := W1) h3.pure ⟨h3.1, h3.2.1⟩ k hq
theorem rG_bi {b : Bi} {m : Env → M (List D)} (h : rG Ef DR (fun ρ => do
    let xs ← m ρ
    let us ← looks xs
    ofO (biV b us)) σ H Q) : tCB (rVn (biV b)) (rG Ef RAs m) σ H Q := by
  obtain ⟨W, ρ, st, er, h⟩ := h
  refine ⟨W, ρ, st, er, (At.bind (R1 := RAs) h).mono ?_⟩
  rintro vs H1 ⟨ds, W1, st1, x1, r1, h1⟩
  obtain ⟨us, hus, h2⟩ := h1.looks r1
  obtain ⟨d, e, h3⟩ := h2.ofO'
  exact ⟨W, H, W1, st1, us, d, ⟨h3.1, h3.2.1⟩, hus, e, h3.pure⟩
theorem rG_call {xr : XR} {EX : L2.St → XK} {C : Ctx} {f : Nat} {m : Env → M (List D)} (h : rG (efOf xr EX) DR (fun ρ => do
    let xs ← m ρ
    C.call f xs) σ H Q) : tCallS (spOf xr C f) EX (rG (efOf xr EX) RAs m) σ H Q := by
  obtain ⟨W, ρ, st, er, h⟩ := h
  refine ⟨W, ρ, st, er, (At.bind (R1 := RAs) h).mono ?_⟩
  rintro vs H1 ⟨ds, W1, st1, x1, r1, h1⟩
  obtain ⟨y, g, w⟩ := h1
  exact ⟨W1, st1, ds, g, r1, wp_mono2 w (fun d s k W' H' v x' g' r => k W' H' v (y.trans x') g' (r.base fun p n => x1.fresh n)) fun e s k W' H' x' g' => k W' H' (y.trans x') g'⟩
theorem rG_tup {m : Env → M (List PyData)} (h : rG Ef DR (fun ρ => do
    let xs ← m ρ
    guardB (decide (xs.length ≤ LIM))
    pure (.dat (.tuple xs))) σ H Q) : tTup (rG Ef RLst m) σ H Q := by
  obtain ⟨W, ρ, st, er, h⟩ := h
  refine ⟨W, ρ, st, er, (At.bind (R1 := RLst) h).mono ?_⟩
  rintro vs H1 ⟨ds, W1, st1, x1, r1, h1⟩
  obtain ⟨hs, h3⟩ := h1.guard
  exact ⟨by rw [r1.length, sizeLine_eq]; exact of_decide_eq_true hs, fun p hp => Fin.tup (W0 := W) (H0 := H) (st := st1) (W := W1) h3.pure ⟨h3.1, h3.2.1⟩ r1 hp⟩
theorem rG_lst {m : Env → M (List PyData)} (h : rG Ef DR (fun ρ => do
    let xs ← m ρ
    guardB (decide (xs.length ≤ LIM))
    pure (.newL xs)) σ H Q) : tLst (rG Ef RLst m) σ H Q := by
  obtain ⟨W, ρ, st, er, h⟩ := h
  refine ⟨W, ρ, st, er, (At.bind (R1 := RLst) h).mono ?_⟩
  rintro vs H1 ⟨ds, W1, st1, x1, r1, h1⟩
  obtain ⟨hs, h3⟩ := h1.guard
  exact ⟨by rw [r1.length, sizeLine_eq]; exact of_decide_eq_true hs, fun p hp => Fin.lst (W0 := W) (H0 := H) (st := st1) (W := W1) h3.pure ⟨h3.1, h3.2.1⟩ r1 hp⟩
theorem rG_empK (h : rG Ef DR (fun _ => pure (.newD false [])) σ H Q) : tDNewK σ H Q := fun p hp => by
  obtain ⟨W, ρ, st, er, h⟩ := h
  exact h.pure W _ _ (h.1.trans (Ext.lay hp)) (h.2.1.lay hp) ⟨p, rfl, Loose.lay h.2.1 hp, hp, [], upd_same, .nil⟩
theorem rG_empT (h : rG Ef DR (fun _ => pure (.newD true [])) σ H Q) : tDNewT σ H Q := fun p hp => by
  obtain ⟨W, ρ, st, er, h⟩ := h
  exact h.pure W _ _ (h.1.trans (Ext.lay hp)) (h.2.1.lay hp) ⟨p, rfl, Loose.lay h.2.1 hp, hp, [], upd_same, .nil⟩
/-- a fresh object becomes a cell -/
theorem rG_cell {m : Env → M D} (h : rG Ef DR (fun ρ => m ρ >>= newCell) σ H Q) : rG Ef DR m σ H Q := by
  obtain ⟨W', ρ', st', er', h'⟩ := rG_then (m1 := m) (k := fun d _ => newCell d) h
  refine ⟨W', ρ', st', er', h'.mono ?_⟩
  rintro v H1 ⟨W, ρ, d, W1, st1, er, x1, r1, h1⟩
  obtain ⟨x, g, w⟩ := h1
  cases d with
  | newL xs =>
    obtain ⟨p, vs, rfl, hp, l, n, q⟩ := r1
    refine w (W1.addE p) H1 _ (x.cell n) (g.cell l ⟨l.2.1, vs, hp, q⟩) ⟨p, ?_, rfl⟩
    show (W1.eta ++ [p])[st1.length]? = some p
    rw [← g.len]; simp
  | newD t kvs =>
    obtain ⟨p, rfl, l, n, q⟩ := r1
    refine w (W1.addE p) H1 _ (x.cell n) (g.cell l ⟨l.2.1, q⟩) ⟨p, ?_, rfl⟩
    show (W1.eta ++ [p])[st1.length]? = some p
    rw [← g.len]; simp
  | dat d => exact w.elim
  | ref i => exact w.elim
/-- items of a display -/
theorem rG_cons {m : Env → M D} {ms : Env → M (List PyData)} {Q : List V → Hp → Prop} (h : rG Ef RLst (fun ρ => do
    let x ← m ρ
    let u ← settle x
    let us ← ms ρ
    pure (u :: us)) σ H Q) : tCons (rG Ef DR m) (rG Ef RLst ms) σ H Q := by
  obtain ⟨W, ρ, st, er, h⟩ := h
  refine ⟨W, ρ, st, er, (At.bind (R1 := DR) h).mono ?_⟩
  rintro v H1 ⟨d, W1, st1, x1, r1, h1⟩
  obtain ⟨u, W2, st2, du, e1, _, _, h2⟩ := h1.settle r1
  refine ⟨W2, ρ, st2, e1 _ _ (er.mono x1), (At.bind (R1 := RLst) h2).mono ?_⟩
  rintro vs H2 ⟨ds, W3, st3, x3, r3, h3⟩
  exact h3.pure _ _ _ h3.1 h3.2.1 (.cons (x3.dv du) r3)
/-- arguments -/
theorem rG_args {m : Env → M D} {ms : Env → M (List D)} {Q : List V → Hp → Prop} (h : rG Ef RAs (fun ρ => do
    let x ← m ρ
    let us ← ms ρ
    pure (keep x :: us)) σ H Q) : tCons (rG Ef DR m) (rG Ef RAs ms) σ H Q := by
  obtain ⟨W, ρ, st, er, h⟩ := h
  refine ⟨W, ρ, st, er, (At.bind (R1 := DR) h).mono ?_⟩
  rintro v H1 ⟨d, W1, st1, x1, r1, h1⟩
  obtain ⟨W2, x2, g2, k2, e2, f2⟩ := keep_own (W' := W) (H' := H) r1 h1.1 h1.2.1
  refine ⟨W2, ρ, st1, e2 _ _ (er.mono x1), (At.bind (R1 := RAs) (h1.move x2 g2)).mono ?_⟩
  rintro vs H2 ⟨ds, W3, st3, x3, r3, h3⟩
  exact h3.pure _ _ _ h3.1 h3.2.1 (.cons (k2.mono x3) r3)
end
end MP
end MExp

section MTgt
set_option Elab.async false
set_option linter.all false
set_option maxRecDepth 100000
set_option autoImplicit false
set_option maxHeartbeats 2000000
/-! MTgt: targets, what is walked, list comprehensions. -/
namespace MP
open PySem PySem.Spec PyProof.Rows L2
variable {Fx : FX} {Ef : L2.St → FX} {Xp : Exc → Store → Prop}

section
variable {W0 W : Wd} {H0 H : Hp} {st : Store}
theorem Ext.writeL {D : Addr} {o : HO} (x : Ext W0 H0 W H) (n : H0 D = none) : Ext W0 H0 W (upd H D o) where
  pre := x.pre
  im := x.im
  frm := fun a u e k => by
    have ha : a ≠ D := fun z => by rw [z, n] at e; cases e
    rw [upd_ne ha]
    exact x.frm a u e k
  newI := x.newI
  newE := x.newE
  dom := fun a h => by
    by_cases q : a = D
    · rw [q, upd_same]; simp
    · rw [upd_ne q]; exact x.dom a h
theorem Gd.writeL {D : Addr} {o : HO} (g : Gd W st H) (l : Loose W H D) : Gd W st (upd H D o) where
  len := g.len
  nd := g.nd
  cells := fun i c a e1 e2 => by
    have ha : a ≠ D := fun z => l.2.2 (z ▸ List.mem_of_getElem? e2)
    exact (g.cells i c a e1 e2).mono (fun _ h => h) (fun b u i e => by rw [upd_ne (show b ≠ D from fun z => l.2.1 (z ▸ i))]; exact e) (fun u e => by rw [upd_ne ha]; exact e) fun h => h
  imm := fun a h => by
    by_cases q : a = D
    · rw [q, upd_same]; simp
    · rw [upd_ne q]; exact g.imm a h
  tr := fun a h => by
    by_cases q : a = D
    · rw [q, upd_same]; simp
    · rw [upd_ne q]; exact g.tr a h
theorem Loose.writeL {D : Addr} {o : HO} (l : Loose W H D) : Loose W (upd H D o) D := ⟨by rw [upd_same]; simp, l.2.1, l.2.2⟩
theorem At.settle' {α β : Type} {R : Hp → Wd → Hp → β → α → Prop} {Q : β → Hp → Prop} {Wb : Wd} {H9 : Hp} {d : D} {v : V} {k : PyData → M α} (h : At Fx W0 H0 R (MP.settle d >>= k) W H st Q) (r : DR H9 W H v d) (f : ∀ p, H9 p = none → H0 p = none) (xb : Ext Wb H9 W H) :
    ∃ u W2 st2, Ext Wb H9 W2 H ∧ Dv W2.im H v u ∧ (∀ ρ σ, EnvR W H ρ σ → EnvR W2 H ρ σ) ∧ (∀ u e, DvAll W.im H u e → DvAll W2.im H u e) ∧ At Fx W0 H0 R (k u) W2 H st2 Q := by
  obtain ⟨x, g, w⟩ := h
  rw [wp_bind] at w
  cases d with
  | dat d => exact ⟨d, W, st, xb, r, fun _ _ h => h, fun _ _ h => h, x, g, w⟩
  | ref i =>
    obtain ⟨a, ha, rfl⟩ := r
    obtain ⟨xs, hx, w⟩ := wp_settleR.mp w
    obtain ⟨_, vs, hv, q⟩ := g.live hx ha
    exact ⟨.list xs, W.addI a, _, xb.still (List.mem_of_getElem? ha), .lst (.inl rfl) (.inl hv) q.own, fun _ _ h => h.own, fun _ _ h => h.own, x.still (List.mem_of_getElem? ha), g.still ha, w⟩
  | newL xs =>
    obtain ⟨p, vs, rfl, hp, l, n, q⟩ := r
    exact ⟨.list xs, W.addI p, st, xb.own n, .lst (.inl rfl) (.inl hp) q.own, fun _ _ h => h.own, fun _ _ h => h.own, x.own (f _ n), g.own l, w⟩
  | newD t kvs =>
    obtain ⟨p, rfl, l, n, q⟩ := r
    refine ⟨.dict kvs, W.addI p, st, xb.own n, ?_, fun _ _ h => h.own, fun _ _ h => h.own, x.own (f _ n), g.own l, w⟩
    cases t with
    | false =>
      obtain ⟨ks, e, k⟩ := q
      exact .dctK (.inl rfl) e (k.mono (fun _ h => .inr h) fun _ _ _ e => e)
    | true =>
      obtain ⟨ks, e, k⟩ := q
      exact .dctT (.inl rfl) e (k.mono (fun _ h => .inr h) fun _ _ _ e => e)
end

/-! ### what is walked -/
def Yld (W : Wd) (H : Hp) (J : L2.It) (xs : List PyData) : Prop := ∀ W' H' (i : Nat), Ext W H W' H' →
  (xs.length ≤ i → J.stop i H') ∧ ∀ x, xs[i]? = some x → J.go i H' ∧ ∀ v H2, J.yld i H' v H2 → ∃ W2, Ext W' H' W2 H2 ∧ Dv W2.im H2 v x ∧ ∀ st, Gd W' st H' → Gd W2 st H2
abbrev RI : Hp → Wd → Hp → L2.It → List PyData → Prop := fun _ W H J xs => Yld W H J xs
section
variable {K : PySem.W.Frag} {W : Wd} {H : Hp}
theorem yld_list {a : Addr} {vs : List V} {xs : List PyData} (i : W.im a) (r : Rd H a (.lst vs)) (q : DvAll W.im H vs xs) : Yld W H (Itl K a) xs := fun W' H' n x => by
  have d : Dv W'.im H' (.ref a) (.list xs) := x.dv (.lst i r q)
  cases d with
  | lst i' r' q' =>
    rename_i ws
    refine ⟨fun h => ⟨ws, .inl r', by rw [q'.length]; exact h⟩, fun y e => ?_⟩
    obtain ⟨w, e1, e2⟩ := q'.get e
    refine ⟨⟨ws, w, .inl r', e1⟩, fun v H2 ⟨h1, h2⟩ => ?_⟩
    subst h1
    have z := h2 ws (.inl r')
    rw [e1] at z
    cases z
    exact ⟨W', .refl, e2, fun _ g => g⟩
theorem yld_tup {a : Addr} {vs : List V} {xs : List PyData} (i : W.im a) (r : Rd H a (.tup vs)) (q : DvAll W.im H vs xs) : Yld W H (Itt K a) xs := fun W' H' n x => by
  have d : Dv W'.im H' (.ref a) (.tuple xs) := x.dv (.tup i r q)
  cases d with
  | tup i' r' q' =>
    rename_i ws
    refine ⟨fun h => ⟨ws, .inl r', by rw [q'.length]; exact h⟩, fun y e => ?_⟩
    obtain ⟨w, e1, e2⟩ := q'.get e
    refine ⟨⟨ws, w, .inl r', e1⟩, fun v H2 ⟨h1, h2⟩ => ?_⟩
    subst h1
    have z := h2 ws (.inl r')
    rw [e1] at z
    cases z
    exact ⟨W', .refl, e2, fun _ g => g⟩
theorem rng_get : ∀ (n : Nat) (lo : Int) (i : Nat), (rngL lo n)[i]? = if i < n then some (.int (lo + i)) else none
  | 0, lo, i => by unfold MP.rngL; simp
  | n + 1, lo, 0 => by unfold MP.rngL; simp
  | n + 1, lo, i + 1 => by
    unfold MP.rngL
    rw [List.getElem?_cons_succ, rng_get n (lo + 1) i]
    by_cases h : i < n
    · rw [if_pos h, if_pos (by omega)]
      congr 2
      omega
    · rw [if_neg h, if_neg (by omega)]
theorem rng_len : ∀ (n : Nat) (lo : Int), (rngL lo n).length = n
  | 0, lo => rfl
  | n + 1, lo => by unfold MP.rngL; rw [List.length_cons, rng_len n]
theorem yld_rng (lo : Int) (n : Nat) : Yld W H (Itr lo n) (rngL lo n) := fun W' H' i x => by
  refine ⟨fun h => by rw [rng_len] at h; exact h, fun y e => ?_⟩
  rw [rng_get] at e
  by_cases h : i < n
  · rw [if_pos h] at e
    cases e
    refine ⟨h, fun v H2 ⟨h1, h2⟩ => ?_⟩
    subst h1 h2
    exact ⟨W', .refl, .int _, fun _ g => g⟩
  · rw [if_neg h] at e; cases e
theorem enumL_get : ∀ (xs : List PyData) (k : Int) (i : Nat), (enumL xs k)[i]? = (xs[i]?).map fun x => .tuple [.int (k + i), x]
  | [], k, i => by unfold enumL; simp
  | x :: r, k, 0 => by unfold enumL; simp
  | x :: r, k, i + 1 => by
    unfold enumL
    rw [List.getElem?_cons_succ, List.getElem?_cons_succ, enumL_get r (k + 1) i]
    congr 1
    funext y
    show PyData.tuple [.int (k + 1 + (i : Int)), y] = .tuple [.int (k + ((i + 1 : Nat) : Int)), y]
    rw [show k + 1 + (i : Int) = k + ((i + 1 : Nat) : Int) by omega]
theorem enumL_len : ∀ (xs : List PyData) (k : Int), (enumL xs k).length = xs.length
  | [], k => by unfold enumL; rfl
  | x :: r, k => by unfold enumL; rw [List.length_cons, List.length_cons, enumL_len r]
theorem zipL_get : ∀ (xs ys : List PyData) (i : Nat) (z : PyData), (zipL xs ys)[i]? = some z → ∃ x y, xs[i]? = some x ∧ ys[i]? = some y ∧ z = .tuple [x, y]
  | [], ys, i, z, e => by unfold zipL at e; simp at e
  | x :: xs, [], i, z, e => by unfold zipL at e; simp at e
  | x :: xs, y :: ys, 0, z, e => by unfold zipL at e; simp at e; exact ⟨x, y, rfl, rfl, e.symm⟩
  | x :: xs, y :: ys, i + 1, z, e => by unfold zipL at e; rw [List.getElem?_cons_succ] at e; simpa using zipL_get xs ys i z e
theorem zipL_len : ∀ (xs ys : List PyData), (zipL xs ys).length = min xs.length ys.length
  | [], ys => by unfold zipL; simp
  | x :: xs, [] => by unfold zipL; simp
  | x :: xs, y :: ys => by unfold zipL; rw [List.length_cons, zipL_len xs ys, List.length_cons, List.length_cons]; omega
/-- a pair just made -/
theorem pair_new {W' : Wd} {H' : Hp} {T : Addr} {x y : V} {a b : PyData} (n : H' T = none) (da : Dv W'.im H' x a) (db : Dv W'.im H' y b) :
    ∃ W2, Ext W' H' W2 (upd H' T (.tup [x, y])) ∧ Dv W2.im (upd H' T (.tup [x, y])) (.ref T) (.tuple [a, b]) ∧ ∀ st, Gd W' st H' → Gd W2 st (upd H' T (.tup [x, y])) := by
  have l : Ext W' H' W' (upd H' T (.tup [x, y])) := Ext.lay n
  refine ⟨W'.addI T, l.own n, .tup (.inl rfl) (.inl upd_same) ?_, fun st g => (g.lay n).own (Loose.lay g n)⟩
  exact .cons (l.dv da).own (.cons (l.dv db).own .nil)
theorem yld_enum {a : Addr} {vs : List V} {xs : List PyData} (i : W.im a) (r : Rd H a (.lst vs)) (q : DvAll W.im H vs xs) : Yld W H (Ite K a) (enumL xs 0) := fun W' H' n x => by
  have d : Dv W'.im H' (.ref a) (.list xs) := x.dv (.lst i r q)
  cases d with
  | lst i' r' q' =>
    rename_i ws
    refine ⟨fun h => ⟨ws, .inl r', by rw [q'.length, ← enumL_len xs 0]; exact h⟩, fun y e => ?_⟩
    rw [enumL_get] at e
    obtain ⟨c, ec, ey⟩ := mapS e
    subst ey
    obtain ⟨w, e1, e2⟩ := q'.get ec
    refine ⟨⟨ws, w, .inl r', e1⟩, fun v H2 ⟨T, w', h1, h2, h3, h4⟩ => ?_⟩
    subst h1 h3
    have z := h4 ws (.inl r')
    rw [e1] at z
    cases z
    rw [Int.zero_add]
    exact pair_new h2 (.int _) e2
theorem yld_zip {a b : Addr} {vs us : List V} {xs ys : List PyData} (i : W.im a) (r : Rd H a (.lst vs)) (q : DvAll W.im H vs xs) (j : W.im b) (s : Rd H b (.lst us)) (p : DvAll W.im H us ys) : Yld W H (Itz K a b) (zipL xs ys) := fun W' H' n x => by
  have d : Dv W'.im H' (.ref a) (.list xs) := x.dv (.lst i r q)
  have d' : Dv W'.im H' (.ref b) (.list ys) := x.dv (.lst j s p)
  cases d with
  | lst i' r' q' =>
    rename_i ws
    cases d' with
    | lst j' s' p' =>
      rename_i zs
      refine ⟨fun h => ⟨ws, zs, .inl r', .inl s', by rw [q'.length, p'.length]; rw [zipL_len] at h; omega⟩, fun y e => ?_⟩
      obtain ⟨x1, y1, f1, f2, rfl⟩ := zipL_get _ _ _ _ e
      obtain ⟨w, e1, e2⟩ := q'.get f1
      obtain ⟨u, e3, e4⟩ := p'.get f2
      refine ⟨⟨ws, zs, w, u, .inl r', .inl s', e1, e3⟩, fun v H2 ⟨T, w', u', h1, h2, h3, h4, h5⟩ => ?_⟩
      subst h1 h3
      have z := h4 ws (.inl r')
      rw [e1] at z
      cases z
      have z := h5 zs (.inl s')
      rw [e3] at z
      cases z
      exact pair_new h2 e2 e4
theorem yld_zipT {a b : Addr} {vs us : List V} {xs ys : List PyData} (i : W.im a) (r : Rd H a (.tup vs)) (q : DvAll W.im H vs xs) (j : W.im b) (s : Rd H b (.tup us)) (p : DvAll W.im H us ys) : Yld W H (RZ.ItzT K a b) (zipL xs ys) := fun W' H' n x => by
  have d : Dv W'.im H' (.ref a) (.tuple xs) := x.dv (.tup i r q)
  have d' : Dv W'.im H' (.ref b) (.tuple ys) := x.dv (.tup j s p)
  cases d with
  | tup i' r' q' =>
    rename_i ws
    cases d' with
    | tup j' s' p' =>
      rename_i zs
      refine ⟨fun h => ⟨ws, zs, .inl r', .inl s', by rw [q'.length, p'.length]; rw [zipL_len] at h; omega⟩, fun y e => ?_⟩
      obtain ⟨x1, y1, f1, f2, rfl⟩ := zipL_get _ _ _ _ e
      obtain ⟨w, e1, e2⟩ := q'.get f1
      obtain ⟨u, e3, e4⟩ := p'.get f2
      refine ⟨⟨ws, zs, w, u, .inl r', .inl s', e1, e3⟩, fun v H2 ⟨T, w', u', h1, h2, h3, h4, h5⟩ => ?_⟩
      subst h1 h3
      have z := h4 ws (.inl r')
      rw [e1] at z
      cases z
      have z := h5 zs (.inl s')
      rw [e3] at z
      cases z
      exact pair_new h2 e2 e4
end

/-! ### targets -/
abbrev FX0 : FX := fun _ _ _ => False
theorem At.drop {α β : Type} {R : Hp → Wd → Hp → β → α → Prop} {W0 W : Wd} {H0 H : Hp} {m : M α} {st : Store} {Q : β → Hp → Prop} (h : At Fx W0 H0 R (noX m) W H st Q) : At FX0 W0 H0 R m W H st Q := ⟨h.1, h.2.1, wp_anyX (wp_noX.mp h.2.2)⟩
abbrev REnv : Hp → Wd → Hp → L2.St → Env → Prop := fun _ W H σ ρ => EnvR W H ρ σ
def Off (ns : List Nat) (σ σ' : L2.St) : Prop := σ'.length = σ.length ∧ ∀ j, j ∉ ns → σ'[j]? = σ[j]?
theorem Off.refl {ns : List Nat} {σ : L2.St} : Off ns σ σ := ⟨rfl, fun _ _ => rfl⟩
theorem Off.trans {ns ms : List Nat} {σ σ1 σ2 : L2.St} (h : Off ns σ σ1) (k : Off ms σ1 σ2) : Off (ns ++ ms) σ σ2 :=
  ⟨k.1.trans h.1, fun j hj => (k.2 j fun z => hj (List.mem_append_right _ z)).trans (h.2 j fun z => hj (List.mem_append_left _ z))⟩
theorem wipe_get (σ : L2.St) (i : Nat) : ∀ vs : List Nat, (wipe σ vs)[i]? = if i ∈ vs ∧ i < σ.length then some none else σ[i]?
  | [] => by rw [if_neg (by simp)]; rfl
  | v :: vs => by
    unfold wipe
    by_cases h : v = i
    · subst h
      by_cases hl : v < σ.length
      · rw [if_pos ⟨by simp, hl⟩, List.getElem?_set_self (by rw [wipe_length]; exact hl)]
      · rw [if_neg (fun z => hl z.2), List.getElem?_eq_none (by rw [List.length_set, wipe_length]; omega), List.getElem?_eq_none (by omega)]
    · rw [List.getElem?_set_ne h, wipe_get σ i vs]
      by_cases hm : i ∈ vs ∧ i < σ.length
      · rw [if_pos hm, if_pos ⟨List.mem_cons_of_mem _ hm.1, hm.2⟩]
      · rw [if_neg hm, if_neg (fun z => hm ⟨(List.mem_cons.mp z.1).resolve_left (Ne.symm h), z.2⟩)]
theorem wipe_off {ns vs : List Nat} {σ σ2 : L2.St} (hs : ∀ i ∈ ns, i ∈ vs) (h : Off ns (wipe σ vs) σ2) : wipe σ2 vs = wipe σ vs := by
  have hl : σ2.length = σ.length := by rw [h.1, wipe_length]
  apply List.ext_getElem?
  intro i
  rw [wipe_get, wipe_get, hl]
  by_cases hm : i ∈ vs ∧ i < σ.length
  · rw [if_pos hm, if_pos hm]
  · rw [if_neg hm, if_neg hm]
    by_cases hv : i ∈ vs
    · rw [List.getElem?_eq_none (by rw [hl]; exact Nat.le_of_not_lt fun z => hm ⟨hv, z⟩), List.getElem?_eq_none (Nat.le_of_not_lt fun z => hm ⟨hv, z⟩)]
    · rw [h.2 i (fun z => hv (hs i z)), wipe_get, if_neg (fun z => hv z.1)]
def rT (m : D → Env → M Env) (ns : List Nat) : TG := fun v σ H Q => ∃ W0 H0 W ρ st d, EnvR W H ρ σ ∧ DR H0 W H v d ∧ At FX0 W0 H0 REnv (m d ρ) W H st fun σ' H' => Off ns σ σ' → Q σ' H'
def rTs (m : List PyData → Env → M Env) (ns : List Nat) : TGs := fun vs σ H Q => ∃ W0 H0 W ρ st ds, EnvR W H ρ σ ∧ DvAll W.im H vs ds ∧ At FX0 W0 H0 REnv (m ds ρ) W H st fun σ' H' => Off ns σ σ' → Q σ' H'
theorem tg_name {i : Nat} {v : V} {σ : L2.St} {H : Hp} {Q : L2.St → Hp → Prop} (h : rT (fun d ρ => pure (ρ.set i (some (keep d)))) [i] v σ H Q) : gName i v σ H Q := by
  obtain ⟨W0, H0, W, ρ, st, d, er, r, h⟩ := h
  obtain ⟨W2, x2, g2, k2, e2, _⟩ := keep_own (W' := W) (H' := H) r h.1 h.2.1
  refine h.pure W2 H _ x2 g2 ((e2 _ _ er).set k2 i) ⟨by rw [List.length_set], fun j hj => ?_⟩
  rw [List.getElem?_set_ne (fun z => hj (by rw [z]; exact List.mem_singleton_self _))]
theorem tg_tup {K : PySem.W.Frag} {n : Nat} {m : List PyData → Env → M Env} {ns : List Nat} {v : V} {σ : L2.St} {H : Hp} {Q : L2.St → Hp → Prop} (h : rT (fun d ρ => look d >>= fun u => match u with
    | .tuple xs => do
      guardB (decide (xs.length = n))
      m xs ρ
    | _ => fail) ns v σ H Q) : gTup K n (rTs m ns) v σ H Q := by
  obtain ⟨W0, H0, W, ρ, st, d, er, r, h⟩ := h
  obtain ⟨u, hu, h⟩ := h.look r
  cases u with
  | tuple xs =>
    obtain ⟨a, vs, rfl, hr, q⟩ := hu.tup
    obtain ⟨hz, h2⟩ := h.guard
    exact ⟨a, vs, rfl, .inl hr, by rw [q.length]; exact of_decide_eq_true hz, W0, H0, W, ρ, st, xs, er, q, h2⟩
  | _ => exact h.fail.elim
theorem tg_nil {vs : List V} {σ : L2.St} {H : Hp} {Q : L2.St → Hp → Prop} {m : List PyData → Env → M Env} (e : ∀ ρ, m [] ρ = pure ρ) (f : ∀ x xs ρ, m (x :: xs) ρ = fail) (h : rTs m [] vs σ H Q) : gNil vs σ H Q := by
  obtain ⟨W0, H0, W, ρ, st, ds, er, r, h⟩ := h
  cases r with
  | nil =>
    rw [e] at h
    exact ⟨rfl, h.pure _ _ _ h.1 h.2.1 er Off.refl⟩
  | cons a b =>
    rw [f] at h
    exact h.fail.elim
theorem tg_cons {vs : List V} {σ : L2.St} {H : Hp} {Q : L2.St → Hp → Prop} {m : List PyData → Env → M Env} {m1 : D → Env → M Env} {m2 : List PyData → Env → M Env} {n1 n2 : List Nat} (e : ∀ ρ, m [] ρ = fail) (f : ∀ x xs ρ, m (x :: xs) ρ = (m1 (.dat x) ρ >>= fun ρ' => m2 xs ρ'))
    (h : rTs m (n1 ++ n2) vs σ H Q) : gCons (rT m1 n1) (rTs m2 n2) vs σ H Q := by
  obtain ⟨W0, H0, W, ρ, st, ds, er, r, h⟩ := h
  cases r with
  | nil =>
    rw [e] at h
    exact h.fail.elim
  | cons a b =>
    rw [f] at h
    refine ⟨_, _, rfl, W, H, W, ρ, st, .dat _, er, a, (At.bind (R1 := REnv) h).mono ?_⟩
    rintro σ1 H1 ⟨ρ1, W1, st1, x1, r1, h1⟩ o1
    exact ⟨W0, H0, W1, ρ1, st1, _, r1, x1.all b, h1.mono fun σ2 H2 k o2 => k (o1.trans o2)⟩
theorem tg_sub {ma mb : Env → M D} {v : V} {σ : L2.St} {H : Hp} {Q : L2.St → Hp → Prop} (h : rT (fun d ρ => do
    let p ← ma ρ
    let y ← mb ρ
    let k ← asInt y
    let z ← settle d
    let i ← refOf p
    let xs ← cellAt i
    let j ← ofO (ixPl xs.length k)
    putCell i (.lst (xs.set j z))
    pure ρ) [] v σ H Q) : gSub (rG Ef DR ma) (rG Ef DR mb) rSetL v σ H Q := by
  obtain ⟨W0, H0, W, ρ, st, d, er, r, h⟩ := h
  refine ⟨W, ρ, st, er, At.anyX ((At.bind (R1 := DR) h).mono ?_)⟩
  rintro o H1 ⟨p, W1, st1, x1, r1, h1⟩
  refine ⟨W1, ρ, st1, er.mono x1, At.anyX ((At.bind (R1 := DR) h1).mono ?_)⟩
  rintro y H2 ⟨dy, W2, st2, x2, r2, h2⟩
  obtain ⟨k, rfl, h3⟩ := h2.asInt r2
  obtain ⟨u, W3, st3, du, e3, k3, _, h4⟩ := h3.settle (r.mono (x1.trans x2))
  have e12 := (er.mono x1).mono x2
  cases p with
  | ref i =>
    obtain ⟨a, ha, rfl⟩ := r1.mono x2
    obtain ⟨a', ha', ea⟩ : ∃ a', W3.eta[i]? = some a' ∧ V.ref a = V.ref a' := k3 (V.ref a) (.ref i) ⟨a, ha, rfl⟩
    cases ea
    obtain ⟨xs, vs, hx, n, hv, q, h5⟩ := At.cellAt (show At FX0 W0 H0 REnv (cellAt i >>= _) W3 H2 st3 _ from h4) ha'
    obtain ⟨j, hj, h6⟩ := h5.ofO
    refine ⟨a, vs, k, j, rfl, rfl, hv, by rw [q.length]; exact hj, ?_⟩
    have h7 := h6.putCell (o := .lst (vs.set j v)) ha' n ⟨n, _, upd_same, DvAll.set (du.write n) j (q.write n)⟩
    exact h7.pure _ _ _ h7.1 h7.2.1 ((e3 _ _ e12).write n) Off.refl
  | _ => exact h4.2.2.elim

/-! ### list comprehensions -/
theorem wp_lc_cons {α : Type} {turn : PyData → M (Option PyData)} {x : PyData} {r acc : List PyData} {k : List PyData → M α} {st : Store} {P : α → Store → Prop} (w : wp Xp (lcGo turn (x :: r) acc >>= k) st P) :
    wp Xp (turn x >>= fun o => (match o with
      | some y => guardB (decide (acc.length < LIM)) >>= fun _ => lcGo turn r (acc ++ [y]) >>= k
      | none => lcGo turn r acc >>= k)) st P := by
  simp only [lcGo, wp_bind] at w ⊢
  refine wp_mono w fun o s w1 => ?_
  cases o with
  | none => simp only [wp_bind]; exact w1
  | some y => simp only [wp_bind] at w1 ⊢; exact w1
theorem wp_lc_turn {α : Type} {mt : Env → M Env} {mif : Env → M Bool} {me : Env → M D} {ρ : Env} {k : Option PyData → M α} {st : Store} {P : α → Store → Prop} (w : wp Xp ((do
      let ρ' ← mt ρ
      let c ← mif ρ'
      match c with
      | true => do
        let y ← me ρ'
        let z ← settle y
        pure (some z)
      | false => pure none : M (Option PyData)) >>= k) st P) :
    wp Xp (mt ρ >>= fun ρ' => mif ρ' >>= fun c => (match c with
      | true => me ρ' >>= fun y => settle y >>= fun z => k (some z)
      | false => k none)) st P := by
  simp only [wp_bind] at w ⊢
  refine wp_mono w fun ρ' s w1 => wp_mono w1 fun c s' w2 => ?_
  cases c with
  | true => simp only [wp_bind] at w2 ⊢; exact w2
  | false => exact w2
theorem At.wp {α β : Type} {R : Hp → Wd → Hp → β → α → Prop} {W0 W : Wd} {H0 H : Hp} {m m' : M α} {st : Store} {Q : β → Hp → Prop} (h : At Fx W0 H0 R m W H st Q) (i : ∀ Xp P, MP.wp Xp m st P → MP.wp Xp m' st P) : At Fx W0 H0 R m' W H st Q := ⟨h.1, h.2.1, i _ _ h.2.2⟩
theorem wp_lc_noX {t : PyData → M (Option PyData)} : ∀ (xs acc : List PyData) (st : Store) (P : List PyData → Store → Prop), wp Xp (lcGo (fun x => noX (t x)) xs acc) st P → wp (fun _ _ => False) (lcGo t xs acc) st P
  | [], acc, st, P, w => w
  | x :: r, acc, st, P, w => by
    simp only [lcGo, wp_bind, wp_noX] at w ⊢
    refine wp_mono w fun o s w1 => ?_
    cases o with
    | none => exact wp_lc_noX r acc s P w1
    | some y =>
      simp only [wp_bind] at w1 ⊢
      obtain ⟨hb, w2⟩ := wp_guard.mp w1
      exact wp_guard.mpr ⟨hb, wp_lc_noX r (acc ++ [y]) s P w2⟩
theorem At.lcX {α β : Type} {R : Hp → Wd → Hp → β → α → Prop} {W0 W : Wd} {H0 H : Hp} {t : PyData → M (Option PyData)} {xs acc : List PyData} {g : List PyData → α} {st : Store} {Q : β → Hp → Prop} (h : At Fx W0 H0 R (lcGo (fun x => noX (t x)) xs acc >>= fun ys => Pure.pure (g ys)) W H st Q) :
    At FX0 W0 H0 R (lcGo t xs acc >>= fun ys => Pure.pure (g ys)) W H st Q := ⟨h.1, h.2.1, by
  have w := h.2.2
  rw [wp_bind] at w ⊢
  exact wp_anyX (wp_lc_noX _ _ _ _ w)⟩
theorem rG_lc {Ef' : L2.St → FX} {σ : L2.St} {H : Hp} {Q : V → Hp → Prop} {mi : Env → M (List PyData)} {mt : D → Env → M Env} {mif : Env → M Bool} {me : Env → M D} {ns vs : List Nat} (hns : ∀ i ∈ ns, i ∈ vs) (h : rG Ef DR (fun ρ => do
    let xs ← mi ρ
    let ys ← lcGo (fun x => noX do
      let ρ' ← mt (.dat x) (wipeE ρ vs)
      let k ← mif ρ'
      match k with
      | true => do
        let y ← me ρ'
        let z ← settle y
        pure (some z)
      | false => pure none) xs []
    pure (.newL ys)) σ H Q) : tLc (rG Ef RI mi) (rT mt ns) (rG Ef' REq mif) (rG Ef' DR me) vs σ H Q := by
  obtain ⟨W, ρ, st, er, h⟩ := h
  refine ⟨W, ρ, st, er, (At.bind (R1 := RI) h).mono ?_⟩
  rintro J H1 ⟨xs, W1, st1, x1, y1, h0⟩
  intro A hA
  have h1 := h0.lcX
  have hA0 : H A = none := x1.fresh hA
  refine ⟨fun i m Hc => m = xs.length - i ∧ i ≤ xs.length ∧ ∃ W2 st2 acc us, Ext W1 H1 W2 Hc ∧ Hc A = some (.lst us) ∧ Loose W2 Hc A ∧ DvAll W2.im Hc us acc ∧ At FX0 W H DR (lcGo (fun x => do
      let ρ' ← mt (.dat x) (wipeE ρ vs)
      let k ← mif ρ'
      match k with
      | true => do
        let y ← me ρ'
        let z ← settle y
        pure (some z)
      | false => pure none) (xs.drop i) acc >>= fun ys => pure (.newL ys)) W2 Hc st2 Q, ?_, ?_⟩
  · exact ⟨xs.length, by simp, Nat.zero_le _, W1, st1, [], [], Ext.lay hA, upd_same, Loose.lay h1.2.1 hA, .nil, h1.1.trans (Ext.lay hA), h1.2.1.lay hA, h1.2.2⟩
  · rintro i m Hc ⟨rfl, hi, W2, st2, acc, us, x2, hus, l2, q2, h2⟩
    obtain ⟨ystop, ygo⟩ := y1 W2 Hc i x2
    by_cases hlt : i < xs.length
    · have hx : xs[i]? = some xs[i] := List.getElem?_eq_getElem hlt
      obtain ⟨go, yl⟩ := ygo _ hx
      rw [List.drop_eq_getElem_cons hlt] at h2
      have h3 := (h2.wp fun _ P w => wp_lc_cons w).wp fun _ P w => wp_lc_turn w
      refine .inr ⟨go, _, fun H' hw => ⟨xs.length - (i + 1), by omega, rfl, hlt, hw⟩, fun v H' hy => ?_⟩
      obtain ⟨W3, x3, dv, g3⟩ := yl v H' hy
      have h4 := h3.go (h3.1.trans x3) (g3 _ h3.2.1)
      refine ⟨W3, H', W3, wipeE ρ vs, st2, .dat xs[i], ((((er.mono x1).mono x2).mono x3).wipe vs), dv, (At.bind (R1 := REnv) h4).mono ?_⟩
      rintro σ4 H4 ⟨ρ4, W4, st4, x4, er4, h5⟩ off
      refine ⟨wipe_off hns off, W4, ρ4, st4, er4, At.anyX ((At.bind (R1 := REq) h5).mono ?_)⟩
      rintro c H5 ⟨c', W5, st5, x5, rfl, h6⟩
      have x35 := x3.trans (x4.trans x5)
      cases c with
      | false =>
        rw [if_neg (by decide)]
        exact ⟨W5, st5, acc, us, x2.trans x35, x35.keepL l2 hus, x35.loose l2, x35.all q2, h6⟩
      | true =>
        rw [if_pos rfl]
        refine ⟨W5, ρ4, st5, er4.mono x5, At.anyX ((At.bind (R1 := DR) h6).mono ?_)⟩
        rintro y H6 ⟨dy, W6, st6, x6, r6, h7⟩
        obtain ⟨u, W7, st7, x7, du, _, k7, h8⟩ := h7.settle' r6 (fun p n => h6.1.fresh n) x6
        obtain ⟨hz, h9⟩ := h8.guard
        have l7 := x7.loose (x35.loose l2)
        have x37 := (x35.trans x7)
        refine ⟨us, x37.keepL l2 hus, by rw [q2.length, sizeLine_eq]; exact of_decide_eq_true hz, W7, st7, acc ++ [u], us ++ [y], (x2.trans x37).writeL hA, upd_same, l7.writeL, ?_, h9.1.writeL hA0, h9.2.1.writeL l7, h9.2.2⟩
        exact DvAll.append ((x37.all q2).write l7.2.1) (.cons (du.write l7.2.1) .nil)
    · have e : i = xs.length := by omega
      subst e
      rw [List.drop_length] at h2
      have h3 : At FX0 W H DR (pure (.newL acc)) W2 Hc st2 Q := h2
      exact .inl ⟨ystop (Nat.le_refl _), h3.pure W2 Hc _ h3.1 h3.2.1 ⟨A, us, rfl, hus, l2, hA0, q2⟩⟩
end MP
end MTgt

section MSnE
set_option Elab.async false
set_option linter.all false
set_option maxRecDepth 100000
set_option autoImplicit false
set_option maxHeartbeats 4000000
/-! MSnE: the machine does at expressions what the evaluator says. -/
namespace MP
open PySem PySem.Spec PyProof.Rows L2
variable {Fx : FX} {Ef : L2.St → FX} {Xp : Exc → Store → Prop}

/-! ### methods of lists -/
section
variable {X : Cx} {σ : L2.St} {H : Hp} {Q : V → Hp → Prop}
theorem rG_app {K : PySem.W.Frag} {ma mx : Env → M D} (h : rG Ef DR (fun ρ => do
    let p ← ma ρ
    let i ← refOf p
    let _ ← cellAt i
    let y ← mx ρ
    let z ← settle y
    let xs ← cellAt i
    guardB (decide (xs.length < LIM))
    putCell i (.lst (xs ++ [z]))
    pure (.dat .none)) σ H Q) : tBM K "list" rAppend (rG Ef DR ma) (tCons (rG Ef DR mx) tNil) σ H Q := by
  obtain ⟨W, ρ, st, er, h⟩ := h
  refine ⟨W, ρ, st, er, (At.bind (R1 := DR) h).mono ?_⟩
  rintro o H1 ⟨p, W1, st1, x1, r1, h1⟩
  obtain ⟨i, a, rfl, ha, rfl, h2⟩ := h1.refOf r1
  obtain ⟨xs0, vs0, _, _, hv0, _, h2⟩ := h2.cellAt ha
  refine ⟨.inl ⟨rfl, _, .inl (.inl hv0)⟩, W1, ρ, st1, er.mono x1, (At.bind (R1 := DR) h2).mono ?_⟩
  rintro y H2 ⟨dy, W2, st2, x2, r2, h3⟩
  obtain ⟨z, W3, st3, xb, dz, _, k3, h4⟩ := h3.settle' r2 (fun p n => h2.1.fresh n) x2
  have ha3 : W3.eta[i]? = some a := xb.at ha
  obtain ⟨xs, vs, _, n, hv, q, h5⟩ := h4.cellAt ha3
  obtain ⟨hz, h6⟩ := h5.guard
  refine ⟨a, vs, y, rfl, rfl, hv, by rw [q.length, sizeLine_eq]; exact of_decide_eq_true hz, ?_⟩
  have h7 := h6.putCell (o := .lst (vs ++ [y])) ha3 n ⟨n, _, upd_same, DvAll.append (q.write n) (.cons (dz.write n) .nil)⟩
  exact h7.pure _ _ _ h7.1 h7.2.1 .non
theorem rG_pop {K : PySem.W.Frag} {ma : Env → M D} (h : rG Ef DR (fun ρ => do
    let p ← ma ρ
    let i ← refOf p
    let xs ← cellAt i
    let y ← ofO xs.getLast?
    putCell i (.lst xs.dropLast)
    pure (.dat y)) σ H Q) : tBM0 K "list" rPop (rG Ef DR ma) σ H Q := by
  obtain ⟨W, ρ, st, er, h⟩ := h
  refine ⟨W, ρ, st, er, (At.bind (R1 := DR) h).mono ?_⟩
  rintro o H1 ⟨p, W1, st1, x1, r1, h1⟩
  obtain ⟨i, a, rfl, ha, rfl, h2⟩ := h1.refOf r1
  obtain ⟨xs, vs, _, n, hv, q, h3⟩ := h2.cellAt ha
  obtain ⟨y, hy, h4⟩ := h3.ofO
  rw [List.getLast?_eq_getElem?, ← q.length] at hy
  obtain ⟨v, hv', dv⟩ := q.get hy
  refine ⟨.inl ⟨rfl, _, .inl (.inl hv)⟩, a, vs, v, rfl, rfl, hv, hv', ?_⟩
  have h7 := h4.putCell (o := .lst vs.dropLast) ha n ⟨n, _, upd_same, q.dropLast.write n⟩
  exact h7.pure _ _ _ h7.1 h7.2.1 (dv.write n)
theorem rG_popAt {K : PySem.W.Frag} {ma mx : Env → M D} (h : rG Ef DR (fun ρ => do
    let p ← ma ρ
    let i ← refOf p
    let _ ← cellAt i
    let y ← mx ρ
    let k ← asInt y
    let xs ← cellAt i
    guardB (decide (xs.length ≤ LIM))
    let j ← ofO (ixPl xs.length k)
    let z ← ofO xs[j]?
    putCell i (.lst (xs.eraseIdx j))
    pure (.dat z)) σ H Q) : tBM K "list" rPopAt (rG Ef DR ma) (tCons (rG Ef DR mx) tNil) σ H Q := by
  obtain ⟨W, ρ, st, er, h⟩ := h
  refine ⟨W, ρ, st, er, (At.bind (R1 := DR) h).mono ?_⟩
  rintro o H1 ⟨p, W1, st1, x1, r1, h1⟩
  obtain ⟨i, a, rfl, ha, rfl, h2⟩ := h1.refOf r1
  obtain ⟨xs0, vs0, _, _, hv0, _, h2⟩ := h2.cellAt ha
  refine ⟨.inl ⟨rfl, _, .inl (.inl hv0)⟩, W1, ρ, st1, er.mono x1, (At.bind (R1 := DR) h2).mono ?_⟩
  rintro y H2 ⟨dy, W2, st2, x2, r2, h3⟩
  obtain ⟨k, rfl, h4⟩ := h3.asInt r2
  have ha3 : W2.eta[i]? = some a := x2.at ha
  obtain ⟨xs, vs, _, n, hv, q, h5⟩ := h4.cellAt ha3
  obtain ⟨hlz, h6⟩ := h5.guard
  obtain ⟨j, hj, h7⟩ := h6.ofO
  obtain ⟨z, hz, h8⟩ := h7.ofO
  obtain ⟨v, hv', dv⟩ := q.get hz
  rw [ixPl_eq, ← q.length] at hj
  obtain ⟨s1, s2, s3, s4⟩ := ixN_seq hj
  have hvl : vs.length ≤ LIM := by rw [q.length]; exact of_decide_eq_true hlz
  have hlim : LIM = 16777216 := rfl
  refine ⟨a, vs, k, j, v, rfl, rfl, hv, by omega, by omega, s1, hv', ?_⟩
  have h9 := h8.putCell (o := .lst (vs.eraseIdx j)) ha3 n ⟨n, _, upd_same, (q.erase j).write n⟩
  exact h9.pure _ _ _ h9.1 h9.2.1 (dv.write n)
/-- isinstance of one class -/
theorem ty_of {K : PySem.W.Frag} {W : Wd} {v : V} {d : PyData} (h : Vw W H v d) : ∃ t : String, TyX K H v (.type t) ∧ ∀ T : Ty, PySem.W.kitOne K (.type t) (.type (match T with
    | .int => "int"
    | .bool => "bool"
    | .str => "str"
    | .tuple => "tuple"
    | .list => "list"
    | .dict => "dict")) = some (isiV T d) := by
  cases d with
  | none => cases h.none; exact ⟨_, .base .non, fun T => by cases T <;> rfl⟩
  | bool b => cases h.bool; exact ⟨_, .base (.bl _), fun T => by cases T <;> rfl⟩
  | int b => cases h.int; exact ⟨_, .base (.int _), fun T => by cases T <;> rfl⟩
  | str b => cases h.str; exact ⟨_, .base (.str _), fun T => by cases T <;> rfl⟩
  | list ds =>
    obtain ⟨a, vs, rfl, r, _⟩ := h
    refine ⟨"list", ?_, fun T => by cases T <;> rfl⟩
    rcases r with r | ⟨o, r⟩
    · exact .base (.lst r)
    · exact .base (.frz r)
  | tuple ds =>
    obtain ⟨a, vs, rfl, r, _⟩ := h.tup
    refine ⟨"tuple", ?_, fun T => by cases T <;> rfl⟩
    rcases r with r | ⟨o, r⟩
    · exact .base (.tup r)
    · exact .fTuple r
  | dict kvs =>
    cases (show Dv W.im H v (.dict kvs) from h) with
    | dctK i r q => exact ⟨"dict", .base (.dK r), fun T => by cases T <;> rfl⟩
    | dctT i r q => exact ⟨"dict", .base (.dT r), fun T => by cases T <;> rfl⟩
end
end MP
end MSnE

section MSnX
set_option Elab.async false
set_option linter.all false
set_option maxRecDepth 100000
set_option autoImplicit false
set_option maxHeartbeats 4000000
/-! MSnX: the machine does at expressions what the evaluator says: all of them. -/
namespace MP
open PySem PySem.Spec PyProof.Rows L2
variable {Fx : FX} {Ef : L2.St → FX} {Xp : Exc → Store → Prop}

theorem rG_eq {α β : Type} {R : Hp → Wd → Hp → β → α → Prop} {m m' : Env → M α} {σ : L2.St} {H : Hp} {Q : β → Hp → Prop} (e : ∀ ρ, m ρ = m' ρ) (h : rG Ef R m σ H Q) : rG Ef R m' σ H Q := by
  rw [show m' = m from (funext e).symm]
  exact h
theorem rG_mono {α β : Type} {R : Hp → Wd → Hp → β → α → Prop} {m : Env → M α} {σ : L2.St} {H : Hp} {Q Q' : β → Hp → Prop} (h : rG Ef R m σ H Q) (i : ∀ b H', Q b H' → Q' b H') : rG Ef R m σ H Q' := by
  obtain ⟨W, ρ, st, er, a⟩ := h
  exact ⟨W, ρ, st, er, a.mono i⟩
theorem rT_eq {m m' : D → Env → M Env} {ns ns' : List Nat} {v : V} {σ : L2.St} {H : Hp} {Q : L2.St → Hp → Prop} (e : ∀ d ρ, m d ρ = m' d ρ) (f : ns = ns') (h : rT m ns v σ H Q) : rT m' ns' v σ H Q := by
  subst f
  rw [show m' = m from (funext fun d => funext fun ρ => e d ρ).symm]
  exact h
theorem rTs_eq {m m' : List PyData → Env → M Env} {ns ns' : List Nat} {v : List V} {σ : L2.St} {H : Hp} {Q : L2.St → Hp → Prop} (e : ∀ d ρ, m d ρ = m' d ρ) (f : ns = ns') (h : rTs m ns v σ H Q) : rTs m' ns' v σ H Q := by
  subst f
  rw [show m' = m from (funext fun d => funext fun ρ => e d ρ).symm]
  exact h

/-! ### what is walked: a list or a tuple -/
def iSeq (K : PySem.W.Frag) (tl : TE) : TI := fun σ H R => tl σ H fun x H1 => ∃ a, x = .ref a ∧ ((∃ xs, SqL K H1 a xs) ∧ R (Itl K a) H1 ∨ (∃ xs, SqT K H1 a xs) ∧ R (Itt K a) H1)
theorem pi_seq {X : Cx} {tg l : Expr} {tl : TE} (hl : PE X l tl) : PI X tg l (iSeq X.K tl) := by
  refine ⟨fun pins s σ H R I h => thn (hl.run pins s σ H _ I h) fun v s1 ⟨x, H1, I1, r1, a, ex, q1⟩ => ?_⟩
  subst ex
  cases r1
  rcases q1 with ⟨⟨xs, hq⟩, q⟩ | ⟨⟨xs, hq⟩, q⟩
  · obtain ⟨its, rv, p, hz⟩ := I1.list hq
    refine wpAny_pyIter_list p.isList ⟨s1.heap.objs.size, [s1.heap.objs.size], _, _, H1, rfl, I1.kept (t' := s1.toks) fun b o e => Heap.get?_push_of_some _ e, turn_list a _, ⟨_, Heap.get?_push_size _ rfl, rfl, rfl⟩, fun b hb => ?_, q⟩
    rw [List.mem_singleton.mp hb]
    exact I1.fpOk (Nat.le_refl _) (I1.hok.fresh (Nat.le_refl _))
  · obtain ⟨its, rv, p, hz⟩ := I1.tuple hq
    refine wpAny_pyIter_tuple (show s1.heap.IsTuple a its.toArray from p) ⟨s1.heap.objs.size, [s1.heap.objs.size], _, _, H1, rfl, I1.kept (t' := s1.toks) fun b o e => Heap.get?_push_of_some _ e, turn_tuple a _, ⟨_, Heap.get?_push_size _ rfl, rfl, rfl⟩, fun b hb => ?_, q⟩
    rw [List.mem_singleton.mp hb]
    exact I1.fpOk (Nat.le_refl _) (I1.hok.fresh (Nat.le_refl _))
section
variable {σ : L2.St} {H : Hp} {Q : V → Hp → Prop}
theorem rI_val {K : PySem.W.Frag} {m : Env → M D} {R : L2.It → Hp → Prop} (h : rG Ef RI (fun ρ => do
    let x ← m ρ
    match keep x with
    | .dat (.list xs) => pure xs
    | .dat (.tuple xs) => pure xs
    | _ => fail) σ H R) : iSeq K (rG Ef DR m) σ H R := by
  obtain ⟨W, ρ, st, er, h⟩ := h
  refine ⟨W, ρ, st, er, (At.bind (R1 := DR) h).mono ?_⟩
  rintro v H1 ⟨d, W1, st1, x1, r1, h1⟩
  obtain ⟨W2, x2, g2, k2, _, _⟩ := keep_own (W' := W) (H' := H) r1 h1.1 h1.2.1
  generalize keep d = d2 at h1 k2
  cases d2 with
  | dat u =>
    cases u with
    | list xs =>
      cases (show Dv W2.im H1 v (.list xs) from k2) with
      | lst i r q => exact ⟨_, rfl, .inl ⟨⟨_, .inl r⟩, h1.pure W2 H1 _ x2 g2 (yld_list i r q)⟩⟩
    | tuple xs =>
      cases (show Dv W2.im H1 v (.tuple xs) from k2) with
      | tup i r q => exact ⟨_, rfl, .inr ⟨⟨_, .inl r⟩, h1.pure W2 H1 _ x2 g2 (yld_tup i r q)⟩⟩
    | _ => exact h1.fail.elim
  | _ => exact h1.fail.elim
theorem rI_rng1 {m : Env → M D} {R : L2.It → Hp → Prop} (h : rG Ef RI (fun ρ => do
    let x ← m ρ
    let i ← asInt x
    guardB (small i)
    pure (rngL 0 i.toNat)) σ H R) : iRng1 (tCons (rG Ef DR m) tNil) σ H R := by
  obtain ⟨W, ρ, st, er, h'⟩ := rG_then h
  refine ⟨W, ρ, st, er, h'.mono ?_⟩
  rintro v H1 ⟨W', ρ', d, W1, st1, _, x1, r1, h1⟩
  obtain ⟨i, rfl, h2⟩ := h1.asInt r1
  obtain ⟨hs, h3⟩ := h2.guard
  have hs' : -1000000 ≤ i ∧ i ≤ 1000000 := by simpa [small] using hs
  exact ⟨i, rfl, by omega, by omega, h3.pure _ _ _ h3.1 h3.2.1 (yld_rng 0 _)⟩
theorem rI_rng2 {m m2 : Env → M D} {R : L2.It → Hp → Prop} (h : rG Ef RI (fun ρ => do
    let x ← m ρ
    let y ← m2 ρ
    let i ← asInt x
    let j ← asInt y
    guardB (small i && small j)
    pure (rngL i (j - i).toNat)) σ H R) : iRng2 (tCons (rG Ef DR m) (tCons (rG Ef DR m2) tNil)) σ H R := by
  obtain ⟨W, ρ, st, er, h'⟩ := rG_two h
  refine ⟨W, ρ, st, er, h'.mono fun v H1 ⟨W1, ρ1, st1, er1, h1⟩ => ⟨W1, ρ1, st1, er1, h1.mono ?_⟩⟩
  rintro u H2 ⟨W', ρ', d, e, W2, st2, _, _, r1, r2, h2⟩
  obtain ⟨i, rfl, h3⟩ := h2.asInt r1
  obtain ⟨j, rfl, h4⟩ := h3.asInt r2
  obtain ⟨hs, h5⟩ := h4.guard
  have hs' : (-1000000 ≤ i ∧ i ≤ 1000000) ∧ (-1000000 ≤ j ∧ j ≤ 1000000) := by simpa [small] using hs
  exact ⟨i, j, rfl, ⟨by omega, by omega, by omega, by omega⟩, h5.pure _ _ _ h5.1 h5.2.1 (yld_rng i _)⟩
theorem rI_enum {K : PySem.W.Frag} {m : Env → M D} {R : L2.It → Hp → Prop} (h : rG Ef RI (fun ρ => do
    let x ← m ρ
    match keep x with
    | .dat (.list xs) => pure (enumL xs 0)
    | _ => fail) σ H R) : iEnum K (tCons (rG Ef DR m) tNil) σ H R := by
  obtain ⟨W, ρ, st, er, h⟩ := h
  refine ⟨W, ρ, st, er, (At.bind (R1 := DR) h).mono ?_⟩
  rintro v H1 ⟨d, W1, st1, x1, r1, h1⟩
  obtain ⟨W2, x2, g2, k2, _, _⟩ := keep_own (W' := W) (H' := H) r1 h1.1 h1.2.1
  generalize keep d = d2 at h1 k2
  cases d2 with
  | dat u =>
    cases u with
    | list xs =>
      cases (show Dv W2.im H1 v (.list xs) from k2) with
      | lst i r q => exact ⟨_, _, rfl, .inl r, h1.pure W2 H1 _ x2 g2 (yld_enum i r q)⟩
    | _ => exact h1.fail.elim
  | _ => exact h1.fail.elim
theorem rI_zip {K : PySem.W.Frag} {m : Env → M (List D)} {R : L2.It → Hp → Prop} (h : rG Ef RI (fun ρ => do
    let xs ← m ρ
    match xs with
    | [.dat (.list x), .dat (.list y)] => pure (zipL x y)
    | [.dat (.tuple x), .dat (.tuple y)] => pure (zipL x y)
    | _ => fail) σ H R) : RZ.iZipA K (rG Ef RAs m) σ H R := by
  obtain ⟨W, ρ, st, er, h⟩ := h
  refine ⟨W, ρ, st, er, (At.bind (R1 := RAs) h).mono ?_⟩
  rintro vs H1 ⟨ds, W1, st1, x1, r1, h1⟩
  replace r1 : Paired (DE W1 H1) vs ds := r1
  revert h1
  split
  · intro h1
    cases r1 with
    | cons a r1 =>
      cases r1 with
      | cons b r1 =>
        cases r1
        cases (show Dv W1.im H1 _ (.list _) from a) with
        | lst i r q =>
          cases (show Dv W1.im H1 _ (.list _) from b) with
          | lst j s p => exact ⟨_, _, _, _, rfl, .inl ⟨.inl r, .inl s, h1.pure W1 H1 _ h1.1 h1.2.1 (yld_zip i r q j s p)⟩⟩
  · intro h1
    cases r1 with
    | cons a r1 =>
      cases r1 with
      | cons b r1 =>
        cases r1
        cases (show Dv W1.im H1 _ (.tuple _) from a) with
        | tup i r q =>
          cases (show Dv W1.im H1 _ (.tuple _) from b) with
          | tup j s p => exact ⟨_, _, _, _, rfl, .inr ⟨.inl r, .inl s, h1.pure W1 H1 _ h1.1 h1.2.1 (yld_zipT i r q j s p)⟩⟩
  · intro h1
    exact h1.fail.elim
end
end MP
end MSnX

section MSnM
set_option Elab.async false
set_option linter.all false
set_option maxRecDepth 100000
set_option autoImplicit false
set_option maxHeartbeats 8000000
/-! MSnM: the machine does at expressions what the evaluator says: the proof by the syntax. -/
namespace MP
open PySem PySem.Spec PyProof.Rows L2

section
variable {T : Tab} {xr : XR} {CX : CXT} {EX : L2.St → XK} {C : Ctx} {k : Nat} {X : Cx} {N : List Str} {sc : Scope} {fq : Str → Bool}
theorem XOk.hu (x : XOk T xr CX EX C k X N sc fq) : X.A.units + 64 < cLine := x.room.units
theorem XOk.none' (x : XOk T xr CX EX C k X N sc fq) {n : Str} (h : n ∈ builtinNames) : X.mg n = none := x.bl n h
theorem chkEs_star : ∀ {es : Exs} {es' : List Expr}, chkEs T N sc fq es es' = true → es'.all noStar = true
  | .nil, [], _ => rfl
  | .nil, _ :: _, h => by unfold chkEs at h; cases h
  | .cons _ _, [], h => by unfold chkEs at h; cases h
  | .cons e es, e' :: es', h => by
    unfold chkEs at h
    simp only [Bool.and_eq_true] at h
    rw [List.all_cons, Bool.and_eq_true]
    exact ⟨h.1.1, chkEs_star h.2⟩
theorem list_cons {e : Expr} {es : List Expr} (h : (e :: es).all noStar = true) : noStar e = true ∧ es.all noStar = true := by rwa [List.all_cons, Bool.and_eq_true] at h
/-- a built-in function or type called by its name -/
theorem pe_biN {b : Bi} {r : List V → Hp → VK → Prop} {e : Expr} {es : List Expr} {p pos : Pos} {t : TA} (hc : CallR X (biFn b) r) (x : XOk T xr CX EX C k X N sc fq) (hg : gloB sc (biNm b) = true) (ha : PA X (e :: es) t) (hs : (e :: es).all noStar = true) :
    PE X (.Call (.Name (biNm b) p) (e :: es) [] pos) (tCB r t) := by
  have h1 := list_cons hs
  have s1 := star_cons (X := X) (es := es) h1.1
  have s2 := stars_none (X := X) (pos := pos) h1.2
  cases b with
  | len => exact pe_callB hc (x.gl' hg) (x.none' (by decide)) (by decide +kernel) ha (by decide) (by decide) s1 s2
  | abs => exact pe_callB hc (x.gl' hg) (x.none' (by decide)) (by decide +kernel) ha (by decide) (by decide) s1 s2
  | repr => exact pe_callB hc (x.gl' hg) (x.none' (by decide)) (by decide +kernel) ha (by decide) (by decide) s1 s2
  | sum => exact pe_callB hc (x.gl' hg) (x.none' (by decide)) (by decide +kernel) ha (by decide) (by decide) s1 s2
  | all => exact pe_callB hc (x.gl' hg) (x.none' (by decide)) (by decide +kernel) ha (by decide) (by decide) s1 s2
  | any => exact pe_callB hc (x.gl' hg) (x.none' (by decide)) (by decide +kernel) ha (by decide) (by decide) s1 s2
  | sorted => exact pe_callB hc (x.gl' hg) (x.none' (by decide)) (by decide +kernel) ha (by decide) (by decide) s1 s2
  | min2 => exact pe_callB hc (x.gl' hg) (x.none' (by decide)) (by decide +kernel) ha (by decide) (by decide) s1 s2
  | max2 => exact pe_callB hc (x.gl' hg) (x.none' (by decide)) (by decide +kernel) ha (by decide) (by decide) s1 s2
  | int => exact pe_callTy hc (x.gl' hg) (x.none' (by decide)) (by decide +kernel) ha (by decide) (by decide) s1 s2
  | list => exact pe_callTy hc (x.gl' hg) (x.none' (by decide)) (by decide +kernel) ha (by decide) (by decide) s1 s2
  | tuple => exact pe_callTy hc (x.gl' hg) (x.none' (by decide)) (by decide +kernel) ha (by decide) (by decide) s1 s2
def tyStr : Ty → String
  | .int => "int"
  | .bool => "bool"
  | .str => "str"
  | .tuple => "tuple"
  | .list => "list"
  | .dict => "dict"
theorem pe_tyN {t : Ty} {e : Expr} (x : XOk T xr CX EX C k X N sc fq) (h : nameIs sc (tyNm t) e = true) : PE X e (tC (.ty (tyStr t))) := by
  obtain ⟨p, rfl, hg⟩ := nameIs_of h
  cases t with
  | int => exact pe_bltn (x.gl' hg) (x.none' (by decide)) (by decide +kernel) rfl (by decide) (by decide)
  | bool => exact pe_bltn (x.gl' hg) (x.none' (by decide)) (by decide +kernel) rfl (by decide) (by decide)
  | str => exact pe_bltn (x.gl' hg) (x.none' (by decide)) (by decide +kernel) rfl (by decide) (by decide)
  | tuple => exact pe_bltn (x.gl' hg) (x.none' (by decide)) (by decide +kernel) rfl (by decide) (by decide)
  | list => exact pe_bltn (x.gl' hg) (x.none' (by decide)) (by decide +kernel) rfl (by decide) (by decide)
  | dict => exact pe_bltn (x.gl' hg) (x.none' (by decide)) (by decide +kernel) rfl (by decide) (by decide)
theorem noStar_ty {t : Ty} {e : Expr} (h : nameIs sc (tyNm t) e = true) : noStar e = true := by
  obtain ⟨p, rfl, hg⟩ := nameIs_of h
  rfl
/-- isinstance of one class -/
theorem rG_isi1 {σ : L2.St} {H : Hp} {Q : V → Hp → Prop} {Ef : L2.St → FX} {K : PySem.W.Frag} {m : Env → M D} {t : Ty} (h : rG Ef DR (fun ρ => do
    let y ← m ρ
    let u ← look y
    pure (.dat (.bool ([t].any fun t => isiV t u)))) σ H Q) : tCB (rIsi K) (tCons (rG Ef DR m) (tCons (tC (.ty (tyStr t))) tNil)) σ H Q := by
  obtain ⟨W, ρ, st, er, h'⟩ := rG_then h
  refine ⟨W, ρ, st, er, h'.mono ?_⟩
  rintro v H1 ⟨W', ρ', d, W1, st1, _, x1, r1, h1⟩
  obtain ⟨u, hu, h2⟩ := h1.look r1
  obtain ⟨ty, k1, k2⟩ := ty_of (K := K) hu
  refine ⟨v, .ty (tyStr t), .type ty, .type (tyStr t), isiV t u, rfl, .ty _, k1, ?_, ?_⟩
  · have := k2 t
    cases t <;> exact this
  · have e : ([t].any fun t => isiV t u) = isiV t u := by simp
    rw [e] at h2
    exact h2.pure _ _ _ h2.1 h2.2.1 (.bl _)
theorem gsame_eq {a b : PyData} (h : gsame a b = true) : a = b := by
  unfold gsame at h
  split at h
  · rw [of_decide_eq_true h]
  · rw [of_decide_eq_true h]
  · cases h
theorem pe_con {d : PyData} {c : Const} {j : Nat} {pos : Pos} (h : conB d c = true) {EX : L2.St → XK} : PE X (.Constant c j pos) (rG (efOf xr EX) DR (evE C (.con d))) := by
  unfold conB at h
  split at h
  · exact pe_non.imp fun σ H Q w => rG_con .non (rG_eq (fun ρ => by rw [evE]) w)
  · rw [beq_iff_eq] at h
    subst h
    exact pe_bl.imp fun σ H Q w => rG_con (.bl _) (rG_eq (fun ρ => by rw [evE]) w)
  · rw [decide_eq_true_eq] at h
    subst h
    exact pe_int.imp fun σ H Q w => rG_con (.int _) (rG_eq (fun ρ => by rw [evE]) w)
  · rw [decide_eq_true_eq] at h
    subst h
    exact pe_str.imp fun σ H Q w => rG_con (.str _) (rG_eq (fun ρ => by rw [evE]) w)
  · cases h
theorem noSet_fold {e : Expr} {env : PySem.Env} (h : noSet e = true) (y : Value) : foldedSetIterable e env y = pure y := by
  cases e <;> first | rfl | (cases h)
theorem few1 {e : Expr} {cp : Pos} (h : noStar e = true) : ((backTo cp (starEach [e] X.env)).all (fun x => !x.1) && (backToKw cp (keywordEach [] X.env)).all (fun x => x.1.isSome) && decide ([e].length + ([] : List Keyword).length + (if ([] : List Keyword).isEmpty then 0 else 1) < 30)) = true := by
  rw [star_cons h]
  rfl
theorem XOk.sto (x : XOk T xr CX EX C k X N sc fq) {n : Str} (h : stoB sc fq n = true) : Loc X.env.scope n ∧ (X.fn n = true ∨ X.env.scope.names.lookup n = some .local) := by
  rw [x.scope, x.fn]
  unfold stoB at h
  split at h
  · exact ⟨.inl (by assumption), .inr (by assumption)⟩
  · exact ⟨.inr (by assumption), .inl h⟩
  · cases h
theorem asg_cons {e : Expr} {es : List Expr} (h : noStar e = true) : assignEach (e :: es) X.env = (false, assign e X.env) :: assignEach es X.env := by
  cases e <;> first | rfl | (cases h)
theorem sub_asg {o i : Expr} {pos : Pos} {env : PySem.Env} (h : noSlice i = true) (v : Value) : assign (.Subscript o i pos) env v = (do
      let ov ← holding [v] (eval o env)
      let iv ← holding [v, ov] (eval i env)
      standAt pos
      holding [v, ov, iv] (setItem ov iv v)
      release [v, ov, iv] []) := by
  cases i <;> first | rfl | (cases h)
theorem blk_ok {scope : Scope} {own : List (Str × Nat)} (x : XOk T xr CX EX C k X N sc fq) (h : blkC N sc scope own = true) : BlkOk X.N X.env.scope scope own := by
  rw [x.names, x.scope]
  exact blkOk_by h
end

section
variable {T : Tab} {xr : XR} {CX : CXT} {C : Ctx} {k : Nat} {N : List Str}
abbrev GoodE (xr : XR) (C : Ctx) (EX : L2.St → XK) (X : Cx) (e : Ex) (e' : Expr) : Prop :=
  PE X e' (rG (efOf xr EX) DR (evE C e)) ∧ (tOk e = true → PT X e' (rG (efOf xr EX) REq (fun ρ => evE C e ρ >>= asBool)))
theorem good_of {EX : L2.St → XK} {X : Cx} {e : Ex} {e' : Expr} (h : PE X e' (rG (efOf xr EX) DR (evE C e))) (p : plainT e' = true) : GoodE xr C EX X e e' := ⟨h, fun _ => pt_of h p⟩
theorem tTest_of {σ : L2.St} {H : Hp} {Q : Bool → Hp → Prop} {Ef : L2.St → FX} {m : Env → M D} {t : TE} (i : ∀ σ H Q, rG Ef DR m σ H Q → t σ H Q) (h : rG Ef REq (fun ρ => m ρ >>= asBool) σ H Q) : tTest t σ H Q := i _ _ _ (rG_test h)
mutual
theorem sndE : ∀ (e : Ex) {EX : L2.St → XK} {X : Cx} {sc : Scope} {fq : Str → Bool} {e' : Expr}, XOk T xr CX EX C k X N sc fq → chkE T N sc fq e e' = true → GoodE xr C EX X e e'
  | .var i, EX, X, sc, fq, e', x, h => by
    unfold chkE at h
    split at h
    · simp only [Bool.and_eq_true, decide_eq_true_eq] at h
      obtain ⟨⟨h1, h2⟩, h3⟩ := h
      obtain ⟨d1, d2, d3⟩ := okName_of h3
      exact good_of ((pe_var (by rw [x.names]; exact h1) (x.vis h2) d1 d2).imp fun σ H Q w => rG_var (rG_eq (fun ρ => by rw [evE] <;> rfl) w)) rfl
    · cases h
  | .con d, EX, X, sc, fq, e', x, h => by
    unfold chkE at h
    split at h
    · exact good_of (pe_con h) rfl
    · cases h
  | .glob y d, EX, X, sc, fq, e', x, h => by
    unfold chkE at h
    split at h
    · simp only [Bool.and_eq_true, decide_eq_true_eq, List.any_eq_true] at h
      obtain ⟨⟨⟨rfl, h2⟩, h3⟩, p, hp, rfl, h4⟩ := h
      obtain ⟨v, u, g1, g2, g3⟩ := x.gl p hp
      rw [gsame_eq h4] at g3
      exact good_of ((pe_glob (x.gl' h2) g1 g2 (okName_of h3).1).imp fun σ H Q w => rG_con g3 (rG_eq (fun ρ => by rw [evE]) w)) rfl
    · cases h
  | .bin op a b, EX, X, sc, fq, e', x, h => by
    unfold chkE at h
    split at h
    · simp only [Bool.and_eq_true, decide_eq_true_eq] at h
      obtain ⟨⟨rfl, h1⟩, h2⟩ := h
      exact good_of ((pe_op (or_bop op) (sndE a x h1).1 (sndE b x h2).1).imp fun σ H Q w => rG_bin (rG_eq (fun ρ => by rw [evE]) w)) rfl
    · cases h
  | .neg a, EX, X, sc, fq, e', x, h => by
    unfold chkE at h
    split at h
    · exact good_of ((pe_un un_neg (sndE a x h).1).imp fun σ H Q w => rG_neg (rG_eq (fun ρ => by rw [evE]) w)) rfl
    · cases h
  | .cmp op a b, EX, X, sc, fq, e', x, h => by
    unfold chkE at h
    split at h
    · simp only [Bool.and_eq_true, decide_eq_true_eq] at h
      obtain ⟨⟨⟨rfl, h1⟩, h2⟩, h3⟩ := h
      have i : ∀ σ H Q, rG (efOf xr EX) DR (evE C (.cmp op a b)) σ H Q → tOp (rV2 fun x y => bolO (copV op x y)) (rG (efOf xr EX) DR (evE C a)) (rG (efOf xr EX) DR (evE C b)) σ H Q := fun σ H Q w => rG_bin (rG_eq (fun ρ => by rw [evE] <;> rfl) w)
      exact ⟨(pe_cmpR (or_cop x.hu op) (sndE a x h2).1 (sndE b x h3).1 (noMark h1)).imp i, fun _ => (pt_cmpR (or_cop x.hu op) (sndE a x h2).1 (sndE b x h3).1 (noMark h1)).imp fun σ H Q w => tTest_of i w⟩
    · cases h
  | .chain o1 o2 a b c, EX, X, sc, fq, e', x, h => by
    unfold chkE at h
    split at h
    · simp only [Bool.and_eq_true, decide_eq_true_eq] at h
      obtain ⟨⟨⟨⟨⟨rfl, rfl⟩, h1⟩, h2⟩, h3⟩, h4⟩ := h
      have i : ∀ σ H Q, rG (efOf xr EX) DR (evE C (.chain o1 o2 a b c)) σ H Q → tChain (rV2 fun x y => bolO (copV o1 x y)) (rV2 fun x y => bolO (copV o2 x y)) (rG (efOf xr EX) DR (evE C a)) (rG (efOf xr EX) DR (evE C b)) (rG (efOf xr EX) DR (evE C c)) σ H Q := fun σ H Q w => rG_chain (rG_eq (fun ρ => by rw [evE] <;> rfl) w)
      exact ⟨(pe_chain (or_cop x.hu o1) (or_cop x.hu o2) (sndE a x h2).1 (sndE b x h3).1 (sndE c x h4).1 (noMark h1)).imp i, fun _ => (pt_chain (or_cop x.hu o1) (or_cop x.hu o2) (sndE a x h2).1 (sndE b x h3).1 (sndE c x h4).1 (noMark h1)).imp fun σ H Q w => tTest_of i w⟩
    · cases h
  | .isin ng a b, EX, X, sc, fq, e', x, h => by
    unfold chkE at h
    split at h
    · simp only [Bool.and_eq_true, decide_eq_true_eq] at h
      obtain ⟨⟨⟨rfl, h1⟩, h2⟩, h3⟩ := h
      have i : ∀ σ H Q, rG (efOf xr EX) DR (evE C (.isin ng a b)) σ H Q → tOp (rV2 fun x y => bolO ((inV x y).map fun b => if ng then !b else b)) (rG (efOf xr EX) DR (evE C a)) (rG (efOf xr EX) DR (evE C b)) σ H Q := fun σ H Q w => rG_bin (rG_eq (fun ρ => by rw [evE] <;> rfl) w)
      exact ⟨(pe_cmpR (or_in x.hu ng) (sndE a x h2).1 (sndE b x h3).1 (noMark h1)).imp i, fun _ => (pt_cmpR (or_in x.hu ng) (sndE a x h2).1 (sndE b x h3).1 (noMark h1)).imp fun σ H Q w => tTest_of i w⟩
    · cases h
  | .isinD _ _ _, EX, X, sc, fq, e', x, h => by
    unfold chkE at h
    cases h
  | .and a b, EX, X, sc, fq, e', x, h => by
    have iv : ∀ σ H Q, rG (efOf xr EX) DR (evE C (.and a b)) σ H Q → tAndV (rG (efOf xr EX) DR (evE C a)) (rG (efOf xr EX) DR (evE C b)) σ H Q := fun σ H Q w => by
      have w' : rG (efOf xr EX) DR (fun ρ => evE C a ρ >>= fun x => asBool x >>= fun k => (fun (k : Bool) (ρ : Env) => (match k with
        | true => evE C b ρ
        | false => pure (.dat (.bool false)) : M D)) k ρ) σ H Q := rG_eq (fun ρ => by rw [evE] <;> rfl) w
      refine rG_mono (rG_condV early_DR w') ?_
      rintro v H1 ⟨c, e, h1⟩
      refine ⟨c, e, ?_⟩
      cases c with
      | true => rw [if_pos rfl]; exact h1
      | false => rw [if_neg (by decide)]; exact rG_pure h1 fun _ _ _ => .bl _
    have it : ∀ σ H Q, rG (efOf xr EX) REq (fun ρ => evE C (.and a b) ρ >>= asBool) σ H Q → tAnd (rG (efOf xr EX) REq (fun ρ => evE C a ρ >>= asBool)) (rG (efOf xr EX) REq (fun ρ => evE C b ρ >>= asBool)) σ H Q := fun σ H Q w => by
      have w' := rG_congr (fun Xp ρ st P w => wp_and w) w
      refine rG_mono (rG_cond (k := fun (k : Bool) (ρ : Env) => (match k with
        | true => evE C b ρ >>= asBool
        | false => pure false : M Bool)) early_eq w') ?_
      rintro c H1 h1
      cases c with
      | true => rw [if_pos rfl]; exact h1
      | false => rw [if_neg (by decide)]; exact rG_pure h1 fun _ _ _ => rfl
    unfold chkE at h
    split at h
    · simp only [Bool.and_eq_true] at h
      refine ⟨(pe_and (sndE a x h.1).1 (pe_one (sndE b x h.2).1)).imp iv, fun t => ?_⟩
      unfold tOk at t
      simp only [Bool.and_eq_true] at t
      exact (pw_and ((sndE a x h.1).2 t.1) (pw_and1 ((sndE b x h.2).2 t.2))).pt.imp it
    · simp only [Bool.and_eq_true] at h
      refine ⟨(pe_and (sndE a x h.1).1 (sndE b x h.2).1).imp iv, fun t => ?_⟩
      unfold tOk at t
      simp only [Bool.and_eq_true] at t
      exact (pw_and ((sndE a x h.1).2 t.1) (PW.ofBool ((sndE b x h.2).2 t.2))).pt.imp it
    · cases h
  | .or a b, EX, X, sc, fq, e', x, h => by
    have iv : ∀ σ H Q, rG (efOf xr EX) DR (evE C (.or a b)) σ H Q → tOrV (rG (efOf xr EX) DR (evE C a)) (rG (efOf xr EX) DR (evE C b)) σ H Q := fun σ H Q w => by
      have w' : rG (efOf xr EX) DR (fun ρ => evE C a ρ >>= fun x => asBool x >>= fun k => (fun (k : Bool) (ρ : Env) => (match k with
        | true => pure (.dat (.bool true))
        | false => evE C b ρ : M D)) k ρ) σ H Q := rG_eq (fun ρ => by rw [evE] <;> rfl) w
      refine rG_mono (rG_condV early_DR w') ?_
      rintro v H1 ⟨c, e, h1⟩
      refine ⟨c, e, ?_⟩
      cases c with
      | false => rw [if_neg (by decide)]; exact h1
      | true => rw [if_pos rfl]; exact rG_pure h1 fun _ _ _ => .bl _
    have it : ∀ σ H Q, rG (efOf xr EX) REq (fun ρ => evE C (.or a b) ρ >>= asBool) σ H Q → tOr (rG (efOf xr EX) REq (fun ρ => evE C a ρ >>= asBool)) (rG (efOf xr EX) REq (fun ρ => evE C b ρ >>= asBool)) σ H Q := fun σ H Q w => by
      have w' := rG_congr (fun Xp ρ st P w => wp_or w) w
      refine rG_mono (rG_cond (k := fun (k : Bool) (ρ : Env) => (match k with
        | true => pure true
        | false => evE C b ρ >>= asBool : M Bool)) early_eq w') ?_
      rintro c H1 h1
      cases c with
      | false => rw [if_neg (by decide)]; exact h1
      | true => rw [if_pos rfl]; exact rG_pure h1 fun _ _ _ => rfl
    unfold chkE at h
    split at h
    · simp only [Bool.and_eq_true] at h
      refine ⟨(pe_or (sndE a x h.1).1 (pe_one (sndE b x h.2).1)).imp iv, fun t => ?_⟩
      unfold tOk at t
      simp only [Bool.and_eq_true] at t
      exact (pw_or ((sndE a x h.1).2 t.1) (pw_or1 ((sndE b x h.2).2 t.2))).pt.imp it
    · simp only [Bool.and_eq_true] at h
      refine ⟨(pe_or (sndE a x h.1).1 (sndE b x h.2).1).imp iv, fun t => ?_⟩
      unfold tOk at t
      simp only [Bool.and_eq_true] at t
      exact (pw_or ((sndE a x h.1).2 t.1) (PW.ofBool ((sndE b x h.2).2 t.2))).pt.imp it
    · cases h
  | .not a, EX, X, sc, fq, e', x, h => by
    unfold chkE at h
    split at h
    · refine ⟨(pe_not (sndE a x h).1).imp fun σ H Q w => ?_, fun t => (pt_not ((sndE a x h).2 (by unfold tOk at t; exact t))).imp fun σ H Q w => ?_⟩
      · have w' : rG (efOf xr EX) DR (fun ρ => evE C a ρ >>= fun x => asBool x >>= fun k => (fun (k : Bool) (_ : Env) => (pure (.dat (.bool (!k))) : M D)) k ρ) σ H Q := rG_eq (fun ρ => by rw [evE]) w
        refine rG_mono (rG_condV early_DR w') ?_
        rintro v H1 ⟨c, e, h1⟩
        exact ⟨c, e, rG_pure h1 fun _ _ _ => .bl _⟩
      · have w' := rG_congr (fun Xp ρ st P w => wp_not w) w
        refine rG_mono (rG_cond (k := fun (k : Bool) (_ : Env) => (pure (!k) : M Bool)) early_eq w') ?_
        rintro c H1 h1
        exact rG_pure h1 fun _ _ _ => rfl
    · cases h
  | .ife c a b, EX, X, sc, fq, e', x, h => by
    unfold chkE at h
    split at h
    · simp only [Bool.and_eq_true] at h
      obtain ⟨⟨⟨h1, h2⟩, h3⟩, h4⟩ := h
      refine ⟨(pe_ifExp ((sndE c x h2).2 h1) (sndE a x h3).1 (sndE b x h4).1).imp fun σ H Q w => ?_, fun t => by unfold tOk at t; cases t⟩
      have w' : rG (efOf xr EX) DR (fun ρ => evE C c ρ >>= fun x => asBool x >>= fun k => (fun (k : Bool) (ρ : Env) => (match k with
        | true => evE C a ρ
        | false => evE C b ρ : M D)) k ρ) σ H Q := rG_eq (fun ρ => by rw [evE] <;> rfl) w
      refine rG_mono (rG_cond early_DR w') ?_
      rintro c H1 h1
      cases c with
      | true => rw [if_pos rfl]; exact h1
      | false => rw [if_neg (by decide)]; exact h1
    · cases h
  | .tup es, EX, X, sc, fq, e', x, h => by
    unfold chkE at h
    split at h
    · exact good_of ((pe_tup (sndEs es x h).1).imp fun σ H Q w => rG_tup (rG_eq (fun ρ => by rw [evE]) w)) rfl
    · cases h
  | .lst es, EX, X, sc, fq, e', x, h => by
    unfold chkE at h
    split at h
    · exact good_of ((pe_lst (sndEs es x h).1).imp fun σ H Q w => rG_lst (rG_eq (fun ρ => by rw [evE]) w)) rfl
    · cases h
  | .emp t, EX, X, sc, fq, e', x, h => by
    unfold chkE at h
    split at h
    · cases t with
      | false => exact good_of (pe_dnewK.imp fun σ H Q w => rG_empK (rG_eq (fun ρ => by rw [evE]) w)) rfl
      | true => exact good_of (pe_dnewT.imp fun σ H Q w => rG_empT (rG_eq (fun ρ => by rw [evE]) w)) rfl
    · cases h
  | .idx a b, EX, X, sc, fq, e', x, h => by
    unfold chkE at h
    split at h
    · simp only [Bool.and_eq_true] at h
      obtain ⟨⟨h1, h2⟩, h3⟩ := h
      exact good_of ((pe_ix ir_idx (sndE a x h2).1 (sndE b x h3).1 (plainIx_of h1)).imp fun σ H Q w => rG_bin (rG_eq (fun ρ => by rw [evE]) w)) rfl
    · cases h
  | .idxD _ _, EX, X, sc, fq, e', x, h => by
    unfold chkE at h
    cases h
  | .slc a lo hi, EX, X, sc, fq, e', x, h => by
    unfold chkE at h
    split at h
    · simp only [Bool.and_eq_true] at h
      obtain ⟨⟨h1, h2⟩, h3⟩ := h
      exact good_of ((pe_slice sr_cut (sndE a x h1).1 (sndO lo x h2) (sndO hi x h3)).imp fun σ H Q w => rG_slc (rG_eq (fun ρ => by rw [evE]) w)) rfl
    · cases h
  | .bi f es, EX, X, sc, fq, e', x, h => by
    unfold chkE at h
    split at h
    · simp only [Bool.and_eq_true] at h
      obtain ⟨p, rfl, hg⟩ := nameIs_of h.1
      exact good_of ((pe_biN (cr_bi x.hu x.gd x.calm f) x hg (sndEs es x h.2).2 (chkEs_star h.2)).imp fun σ H Q w => rG_bi (rG_eq (fun ρ => by rw [evE]) w)) rfl
    · cases h
  | .lrng a, EX, X, sc, fq, e', x, h => by
    unfold chkE at h
    split at h
    · simp only [Bool.and_eq_true] at h
      obtain ⟨⟨⟨h1, h2⟩, h3⟩, h4⟩ := h
      obtain ⟨p, rfl, hg⟩ := nameIs_of h1
      obtain ⟨p', rfl, hg'⟩ := nameIs_of h2
      exact good_of ((pe_listRg x.calm (x.gl' hg) (x.none' (by decide)) (prg_1 (x.gl' hg') (x.none' (by decide)) (sndE a x h4).1 (star_cons h3)) (star_cons rfl)).imp fun σ H Q w => rG_lrng (rG_eq (fun ρ => by rw [evE]) w)) rfl
    · cases h
  | .isi a ts par, EX, X, sc, fq, e', x, h => by
    unfold chkE at h
    split at h
    · simp only [Bool.and_eq_true] at h
      obtain ⟨⟨⟨h1, h2⟩, h3⟩, h4⟩ := h
      obtain ⟨p, rfl, hg⟩ := nameIs_of h1
      have st := noStar_ty h4
      exact good_of ((pe_callB call_isi (x.gl' hg) (x.none' (by decide)) (by decide +kernel) (pa_cons (sndE a x h3).1 (pa_cons (pe_tyN x h4) pa_nil (star_cons st)) (star_cons h2)) (by decide) (by decide) (star_cons h2) (stars_none (by rw [List.all_cons, st]; rfl))).imp
        fun σ H Q w => rG_isi1 (rG_eq (fun ρ => by rw [evE]) w)) rfl
    · cases h
  | .call f es, EX, X, sc, fq, e', x, h => by
    unfold chkE at h
    split at h
    · simp only [Bool.and_eq_true, decide_eq_true_eq] at h
      obtain ⟨⟨⟨h1, h2⟩, h3⟩, h4⟩ := h
      cases hf : T.P[f]? with
      | none => rw [hf] at h3; cases h3
      | some d =>
        rw [hf] at h3
        cases h3
        obtain ⟨fa, fd, m1, m2, m3, m4, m5⟩ := x.fns f d hf
        have st := chkEs_star h4
        have st2 := list_cons st
        exact good_of ((pe_callG m5 x.room x.gd (x.gl' h2) m1 m2 m3 x.px (sndEs es x h4).2 (okName_of h1).1 (star_cons st2.1) (stars_none st2.2)).imp fun σ H Q w => rG_call (rG_eq (fun ρ => by rw [evE]) w)) rfl
    · cases h
  | .comp elt tg it ifs own, EX, X, sc, fq, e', x, h => by
    unfold chkE at h
    split at h
    · simp only [Bool.and_eq_true] at h
      obtain ⟨⟨⟨⟨⟨⟨h1, h2⟩, h3⟩, h4⟩, h5⟩, h6⟩, h7⟩ := h
      have hns : ∀ i ∈ tgNames tg, i ∈ own.map (·.2) := fun i hi => by
        have := List.all_eq_true.mp h7 i hi
        exact of_decide_eq_true this
      exact good_of ((pe_lc x.calm (by rw [x.names]; exact x.nd) (sndIt it x h3) (blk_ok x h1) (fun s H c cl fp => sndTg tg (x.blk s H _ c cl fp) h4) (fun s H c cl fp => sndIf ifs (x.blk s H _ c cl fp) h5) (fun s H c cl fp => (sndE elt (x.blk s H _ c cl fp) h6).1)
        (noSet_fold h2)).imp fun σ H Q w => rG_lc hns (rG_eq (fun ρ => by rw [evE] <;> rfl) w)) rfl
    · cases h
  | .cell e, EX, X, sc, fq, e', x, h => by
    unfold chkE at h
    exact ⟨((sndE e x h).1).imp fun σ H Q w => rG_cell (rG_eq (fun ρ => by rw [evE]) w), fun t => by unfold tOk at t; cases t⟩
  | .app a y, EX, X, sc, fq, e', x, h => by
    unfold chkE at h
    split at h
    · simp only [Bool.and_eq_true, decide_eq_true_eq] at h
      obtain ⟨⟨⟨⟨⟨rfl, h1⟩, h2⟩, h3⟩, h4⟩, h5⟩ := h
      exact good_of ((pe_bm PySem.F.plainAttrs_list PySem.F.slot_list_append PySem.F.type_list_append mt_append (sndE a x h4).1 (pa_cons (sndE y x h5).1 pa_nil (star_cons h3)) (attr_plain h1) (few1 h3) (by rw [h2]; exact beq_self_eq_true _) (star_cons h3) rfl).imp
        fun σ H Q w => rG_app (rG_eq (fun ρ => by rw [evE]) w)) rfl
    · cases h
  | .pop a, EX, X, sc, fq, e', x, h => by
    unfold chkE at h
    split at h
    · simp only [Bool.and_eq_true, decide_eq_true_eq] at h
      obtain ⟨⟨⟨rfl, h1⟩, h2⟩, h4⟩ := h
      exact good_of ((pe_bm0 PySem.F.plainAttrs_list PySem.F.slot_list_pop PySem.F.type_list_pop mt_pop (sndE a x h4).1 (attr_plain h1) (by rw [h2]; exact beq_self_eq_true _)).imp
        fun σ H Q w => rG_pop (rG_eq (fun ρ => by rw [evE]) w)) rfl
    · cases h
  | .popAt a y, EX, X, sc, fq, e', x, h => by
    unfold chkE at h
    split at h
    · simp only [Bool.and_eq_true, decide_eq_true_eq] at h
      obtain ⟨⟨⟨⟨⟨rfl, h1⟩, h2⟩, h3⟩, h4⟩, h5⟩ := h
      exact good_of ((pe_bm PySem.F.plainAttrs_list PySem.F.slot_list_pop PySem.F.type_list_pop mt_popAt (sndE a x h4).1 (pa_cons (sndE y x h5).1 pa_nil (star_cons h3)) (attr_plain h1) (few1 h3) (by rw [h2]; exact beq_self_eq_true _) (star_cons h3) rfl).imp
        fun σ H Q w => rG_popAt (rG_eq (fun ρ => by rw [evE]) w)) rfl
    · cases h
  | .index _ _, EX, X, sc, fq, e', x, h => by
    unfold chkE at h
    cases h
theorem sndEs : ∀ (es : Exs) {EX : L2.St → XK} {X : Cx} {sc : Scope} {fq : Str → Bool} {es' : List Expr}, XOk T xr CX EX C k X N sc fq → chkEs T N sc fq es es' = true →
    PA X es' (rG (efOf xr EX) RLst (evEs C es)) ∧ PA X es' (rG (efOf xr EX) RAs (evAs C es))
  | .nil, EX, X, sc, fq, [], x, h => ⟨pa_nil.imp fun σ H Q w => rG_pure (rG_eq (m' := fun _ => pure []) (fun ρ => by rw [evEs]) w) fun _ _ _ => .nil, pa_nil.imp fun σ H Q w => rG_pure (rG_eq (m' := fun _ => pure []) (fun ρ => by rw [evAs]) w) fun _ _ _ => .nil⟩
  | .nil, EX, X, sc, fq, _ :: _, x, h => by unfold chkEs at h; cases h
  | .cons _ _, EX, X, sc, fq, [], x, h => by unfold chkEs at h; cases h
  | .cons e es, EX, X, sc, fq, e' :: es', x, h => by
    unfold chkEs at h
    simp only [Bool.and_eq_true] at h
    obtain ⟨⟨h1, h2⟩, h3⟩ := h
    exact ⟨(pa_cons (sndE e x h2).1 (sndEs es x h3).1 (star_cons h1)).imp fun σ H Q w => rG_cons (rG_eq (fun ρ => by rw [evEs]) w), (pa_cons (sndE e x h2).1 (sndEs es x h3).2 (star_cons h1)).imp fun σ H Q w => rG_args (rG_eq (fun ρ => by rw [evAs]) w)⟩
theorem sndO : ∀ (o : Opt) {EX : L2.St → XK} {X : Cx} {sc : Scope} {fq : Str → Bool} {o' : Option Expr}, XOk T xr CX EX C k X N sc fq → chkO T N sc fq o o' = true → PO X o' (rG (efOf xr EX) REq (evO C o))
  | .none, EX, X, sc, fq, none, x, h => po_none.imp fun σ H Q w => rG_pure (rG_eq (m' := fun _ => pure none) (fun ρ => by rw [evO]) w) fun _ _ _ => rfl
  | .none, EX, X, sc, fq, some _, x, h => by unfold chkO at h; cases h
  | .some _, EX, X, sc, fq, none, x, h => by unfold chkO at h; cases h
  | .some e, EX, X, sc, fq, some e', x, h => by
    unfold chkO at h
    exact (po_some (sndE e x h).1).imp fun σ H Q w => rG_part (rG_eq (fun ρ => by rw [evO]) w)
theorem sndIf : ∀ (o : Opt) {EX : L2.St → XK} {X : Cx} {sc : Scope} {fq : Str → Bool} {es' : List Expr}, XOk T xr CX EX C k X N sc fq → chkIf T N sc fq o es' = true → PTs X es' (rG (efOf xr EX) REq (evIf C o))
  | .none, EX, X, sc, fq, [], x, h => pts_nil.imp fun σ H Q w => rG_pure (rG_eq (m' := fun _ => pure true) (fun ρ => by rw [evIf]) w) fun _ _ _ => rfl
  | .none, EX, X, sc, fq, _ :: _, x, h => by unfold chkIf at h; cases h
  | .some _, EX, X, sc, fq, [], x, h => by unfold chkIf at h; cases h
  | .some _, EX, X, sc, fq, _ :: _ :: _, x, h => by unfold chkIf at h; cases h
  | .some e, EX, X, sc, fq, [e'], x, h => by
    unfold chkIf at h
    simp only [Bool.and_eq_true] at h
    exact (pts_one ((sndE e x h.2).2 h.1)).imp fun σ H Q w => rG_eq (fun ρ => by rw [evIf]) w
theorem sndTg : ∀ (t : Tg) {EX : L2.St → XK} {X : Cx} {sc : Scope} {fq : Str → Bool} {e' : Expr}, XOk T xr CX EX C k X N sc fq → chkTg T N sc fq t e' = true → PG X e' (rT (evTg C t) (tgNames t))
  | .name i, EX, X, sc, fq, e', x, h => by
    unfold chkTg at h
    split at h
    · simp only [Bool.and_eq_true, decide_eq_true_eq] at h
      obtain ⟨l1, l2⟩ := x.sto h.2
      exact (pg_name (by rw [x.names]; exact x.nd) (by rw [x.names]; exact h.1) l1 l2).imp fun v σ H Q w => tg_name (rT_eq (fun d ρ => by rw [evTg]) (by rw [tgNames]) w)
    · cases h
  | .tup ts, EX, X, sc, fq, e', x, h => by
    unfold chkTg at h
    split at h
    · obtain ⟨g1, g2, g3, g4⟩ := sndTgs ts x h
      exact (pg_tup x.calm g1 (g2.trans g4) g3).imp fun v σ H Q w => tg_tup (K := X.K) (rT_eq (fun d ρ => by rw [evTg] <;> rfl) (by rw [tgNames]) w)
    · cases h
  | .sub a b, EX, X, sc, fq, e', x, h => by
    unfold chkTg at h
    split at h
    · simp only [Bool.and_eq_true] at h
      obtain ⟨⟨h1, h2⟩, h3⟩ := h
      exact (pg_sub (sndE a x h2).1 (sndE b x h3).1 set_list (sub_asg h1)).imp fun v σ H Q w => tg_sub (rT_eq (fun d ρ => by rw [evTg]) (by rw [tgNames]) w)
    · cases h
  | .subD _ _, EX, X, sc, fq, e', x, h => by
    unfold chkTg at h
    cases h
theorem sndTgs : ∀ (ts : Tgs) {EX : L2.St → XK} {X : Cx} {sc : Scope} {fq : Str → Bool} {es' : List Expr}, XOk T xr CX EX C k X N sc fq → chkTgs T N sc fq ts es' = true →
    PGs X es' (rTs (evTgs C ts) (tgsNames ts)) ∧ (assignEach es' X.env).length = es'.length ∧ (assignEach es' X.env).findIdx? (·.1) = none ∧ es'.length = tgsLen ts
  | .nil, EX, X, sc, fq, [], x, h => ⟨pgs_nil.imp fun v σ H Q w => tg_nil (fun ρ => by rw [evTgs]) (fun a xs ρ => by rw [evTgs]; all_goals simp) (rTs_eq (fun _ _ => rfl) (by rw [tgsNames]) w), rfl, rfl, rfl⟩
  | .nil, EX, X, sc, fq, _ :: _, x, h => by unfold chkTgs at h; cases h
  | .cons _ _, EX, X, sc, fq, [], x, h => by unfold chkTgs at h; cases h
  | .cons t ts, EX, X, sc, fq, e :: es, x, h => by
    unfold chkTgs at h
    simp only [Bool.and_eq_true] at h
    obtain ⟨⟨h1, h2⟩, h3⟩ := h
    obtain ⟨g1, g2, g3, g4⟩ := sndTgs ts x h3
    have q := asg_cons (X := X) (es := es) h1
    refine ⟨(pgs_cons (sndTg t x h2) g1 (by rw [q] <;> rfl)).imp fun v σ H Q w => tg_cons (fun ρ => by rw [evTgs]; all_goals simp) (fun a xs ρ => by rw [evTgs]) (rTs_eq (fun _ _ => rfl) (by rw [tgsNames]) w), ?_, ?_, ?_⟩
    · rw [q, List.length_cons, g2, List.length_cons]
    · rw [q]
      simp [List.findIdx?_cons, g3]
    · rw [List.length_cons, g4, tgsLen]
theorem sndIt : ∀ (it : It) {EX : L2.St → XK} {X : Cx} {sc : Scope} {fq : Str → Bool} {tg e' : Expr}, XOk T xr CX EX C k X N sc fq → chkIt T N sc fq it tg e' = true → PI X tg e' (rG (efOf xr EX) RI (evIt C it))
  | .val e, EX, X, sc, fq, tg, e', x, h => by
    unfold chkIt at h
    exact (pi_seq (sndE e x h).1).imp fun σ H R w => rI_val (rG_eq (fun ρ => by rw [evIt] <;> rfl) w)
  | .rng1 a, EX, X, sc, fq, tg, e', x, h => by
    unfold chkIt at h
    split at h
    · simp only [Bool.and_eq_true] at h
      obtain ⟨⟨h1, h2⟩, h3⟩ := h
      obtain ⟨p, rfl, hg⟩ := nameIs_of h1
      exact (pi_range1 (x.gl' hg) (x.none' (by decide)) (pa_cons (sndE a x h3).1 pa_nil (star_cons h2)) (star_cons h2)).imp fun σ H R w => rI_rng1 (rG_eq (fun ρ => by rw [evIt]) w)
    · cases h
  | .rng2 a b, EX, X, sc, fq, tg, e', x, h => by
    unfold chkIt at h
    split at h
    · simp only [Bool.and_eq_true] at h
      obtain ⟨⟨⟨⟨h1, h2⟩, h3⟩, h4⟩, h5⟩ := h
      obtain ⟨p, rfl, hg⟩ := nameIs_of h1
      exact (pi_range2 (x.gl' hg) (x.none' (by decide)) (pa_cons (sndE a x h4).1 (pa_cons (sndE b x h5).1 pa_nil (star_cons h3)) (star_cons h2)) (by rw [star_cons h2, star_cons h3] <;> rfl) (star_cons h3)).imp fun σ H R w => rI_rng2 (rG_eq (fun ρ => by rw [evIt]) w)
    · cases h
  | .rng3 _ _ _, EX, X, sc, fq, tg, e', x, h => by
    unfold chkIt at h
    cases h
  | .enum a, EX, X, sc, fq, tg, e', x, h => by
    unfold chkIt at h
    split at h
    · simp only [Bool.and_eq_true] at h
      obtain ⟨⟨h1, h2⟩, h3⟩ := h
      obtain ⟨p, rfl, hg⟩ := nameIs_of h1
      exact (pi_enum (x.gl' hg) (x.none' (by decide)) (pa_cons (sndE a x h3).1 pa_nil (star_cons h2)) (star_cons h2)).imp fun σ H R w => rI_enum (rG_eq (fun ρ => by rw [evIt] <;> rfl) w)
    · cases h
  | .zip es, EX, X, sc, fq, tg, e', x, h => by
    unfold chkIt at h
    split at h
    · rename_i tg1 tg2 tg3 f' a' es' pos
      simp only [Bool.and_eq_true, decide_eq_true_eq] at h
      obtain ⟨⟨h1, h2⟩, h3⟩ := h
      obtain ⟨p, rfl, hg⟩ := nameIs_of h1
      match es', h2, h3 with
      | [b'], _, h3 =>
        have st := chkEs_star h3
        have st2 := list_cons st
        exact (RZ.pi_zipA (x.gl' hg) (x.none' (by decide)) (sndEs es x h3).2 (star_cons st2.1) (stars_none st2.2)).imp fun σ H R w => rI_zip (rG_eq (fun ρ => by rw [evIt] <;> rfl) w)
    · cases h
end
end
end MP
end MSnM

section MSt
set_option Elab.async false
set_option linter.all false
set_option maxRecDepth 100000
set_option autoImplicit false
set_option maxHeartbeats 8000000
/-! MSt: the machine does at statements what the evaluator says. -/
namespace MP
open PySem PySem.Spec PyProof.Rows L2
variable {Fx : FX} {Ef : L2.St → FX} {Xp : Exc → Store → Prop}

inductive OutV where
  | next (σ : L2.St)
  | cnt (σ : L2.St)
  | brk (σ : L2.St)
  | ret (v : V)
def ROut : Hp → Wd → Hp → OutV → Out → Prop
  | _, W, H, .next σ, .next ρ => EnvR W H ρ σ
  | _, W, H, .cnt σ, .cnt ρ => EnvR W H ρ σ
  | _, W, H, .brk σ, .brk ρ => EnvR W H ρ σ
  | H0, W, H, .ret v, .ret d => DR H0 W H v d
  | _, _, _, _, _ => False
def toE (D : Ends) : OutV → Hp → Prop
  | .next σ, H => D.nx σ H
  | .cnt σ, H => D.ct σ H
  | .brk σ, H => D.bk σ H
  | .ret v, H => D.rt v H
def rS (Fx : FX) (m : Env → M Out) : TS := fun D σ H => ∃ W0 H0 W ρ st, EnvR W H ρ σ ∧ At Fx W0 H0 ROut (m ρ) W H st (toE D)
theorem rS_eq {m m' : Env → M Out} {D : Ends} {σ : L2.St} {H : Hp} (e : ∀ ρ, m ρ = m' ρ) (h : rS Fx m D σ H) : rS Fx m' D σ H := by
  rw [show m' = m from (funext e).symm]
  exact h
/-- a run, then its outcome is looked at -/
theorem At.flow {W0 W : Wd} {H0 H : Hp} {m : M Out} {k : Out → M Out} {st : Store} {D D' : Ends} (h : At Fx W0 H0 ROut (m >>= k) W H st (toE D))
    (i : ∀ b a W1 H1 st1, Ext W H W1 H1 → ROut H W1 H1 b a → At Fx W0 H0 ROut (k a) W1 H1 st1 (toE D) → toE D' b H1) : At Fx W H ROut m W H st (toE D') :=
  (At.bind (R1 := ROut) h).mono fun b H1 ⟨a, W1, st1, x, r, h1⟩ => i b a W1 H1 st1 x r h1
theorem At.bindB {α β γ δ : Type} {R : Hp → Wd → Hp → β → α → Prop} {R1 : Hp → Wd → Hp → δ → γ → Prop} {W0 W Wb : Wd} {H0 H Hb : Hp} {m : M γ} {k : γ → M α} {st : Store} {Q : β → Hp → Prop} (h : At Fx W0 H0 R (m >>= k) W H st Q) (x : Ext Wb Hb W H) (xb : Ext W0 H0 Wb Hb) :
    At Fx Wb Hb R1 m W H st fun b H1 => ∃ a W1 st1, Ext Wb Hb W1 H1 ∧ R1 Hb W1 H1 b a ∧ At Fx W0 H0 R (k a) W1 H1 st1 Q := by
  obtain ⟨_, g, w⟩ := h
  rw [wp_bind] at w
  exact ⟨x, g, wp_mono2 w (fun a s w' W' H' b x' g' r => ⟨a, W', s, x', r, xb.trans x', g', w'⟩) fun e s w' W' H' x' g' => w' W' H' (xb.trans x') g'⟩
section
variable {W0 W : Wd} {H0 H : Hp} {st : Store} {De : Ends} {σ : L2.St}
theorem At.next {ρ : Env} (h : At Fx W0 H0 ROut (Pure.pure (.next ρ)) W H st (toE De)) (er : EnvR W H ρ σ) : De.nx σ H := h.pure W H (.next σ) h.1 h.2.1 er
theorem rS_ret {m : Env → M D} (h : rS Fx (fun ρ => do
    let x ← m ρ
    pure (.ret x)) De σ H) : tRet (rG (fun _ => Fx) DR m) De σ H := by
  obtain ⟨W0, H0, W, ρ, st, er, h⟩ := h
  refine ⟨W, ρ, st, er, (At.bind (R1 := DR) h).mono ?_⟩
  rintro v H1 ⟨d, W1, st1, x1, r1, h1⟩
  exact h1.pure W1 H1 (.ret v) h1.1 h1.2.1 (r1.base fun p n => h.1.fresh n)
theorem rS_expr {m : Env → M D} (h : rS Fx (fun ρ => do
    let _ ← m ρ
    pure (.next ρ)) De σ H) : tDrop (rG (fun _ => Fx) DR m) De σ H := by
  obtain ⟨W0, H0, W, ρ, st, er, h⟩ := h
  refine ⟨W, ρ, st, er, (At.bind (R1 := DR) h).mono ?_⟩
  rintro v H1 ⟨d, W1, st1, x1, r1, h1⟩
  exact h1.next (er.mono x1)
theorem rS_asg {m : Env → M D} {t : D → Env → M Env} {ns : List Nat} (h : rS Fx (fun ρ => do
    let x ← m ρ
    let ρ' ← noX (t x ρ)
    pure (.next ρ')) De σ H) : tAsg (rG (fun _ => Fx) DR m) (rT t ns) De σ H := by
  obtain ⟨W0, H0, W, ρ, st, er, h⟩ := h
  refine ⟨W, ρ, st, er, (At.bind (R1 := DR) h).mono ?_⟩
  rintro v H1 ⟨d, W1, st1, x1, r1, h1⟩
  refine ⟨W, H, W1, ρ, st1, d, er.mono x1, r1, (At.drop (At.bindB (R1 := REnv) h1 x1 h.1)).mono ?_⟩
  rintro σ' H2 ⟨ρ2, W2, st2, x2, er2, h2⟩ _
  exact h2.next er2
theorem rS_par {i j : Nat} {m : Env → M (List D)} (h : rS Fx (fun ρ => do
    let xs ← m ρ
    match xs with
    | [x, y] => pure (.next ((ρ.set i (some x)).set j (some y)))
    | _ => fail) De σ H) : tPar i j (rG (fun _ => Fx) RAs m) De σ H := by
  obtain ⟨W0, H0, W, ρ, st, er, h⟩ := h
  refine ⟨W, ρ, st, er, (At.bind (R1 := RAs) h).mono ?_⟩
  rintro vs H1 ⟨ds, W1, st1, x1, r1, h1⟩
  replace r1 : Paired (DE W1 H1) vs ds := r1
  revert h1
  split
  · intro h1
    cases r1 with
    | cons a r1 =>
      cases r1 with
      | cons b r1 =>
        cases r1
        exact ⟨_, _, rfl, h1.next (((er.mono x1).set a i).set b j)⟩
  · intro h1
    exact h1.2.2.elim
theorem rS_if {c : Env → M Bool} {a b : Env → M Out} (h : rS Fx (fun ρ => c ρ >>= fun k => match k with
    | true => a ρ
    | false => b ρ) De σ H) : tIfS (rG (fun _ => Fx) REq c) (rS Fx a) (rS Fx b) De σ H := by
  obtain ⟨W0, H0, W, ρ, st, er, h⟩ := h
  refine ⟨W, ρ, st, er, (At.bind (R1 := REq) h).mono ?_⟩
  rintro k H1 ⟨k', W1, st1, x1, rfl, h1⟩
  cases k with
  | true => rw [if_pos rfl]; exact ⟨W0, H0, W1, ρ, st1, er.mono x1, h1⟩
  | false => rw [if_neg (by decide)]; exact ⟨W0, H0, W1, ρ, st1, er.mono x1, h1⟩
theorem rS_seq {a b : Env → M Out} (h : rS Fx (fun ρ => a ρ >>= fun o => match o with
    | .next ρ' => b ρ'
    | o => pure o) De σ H) : tSeq (rS Fx a) (rS Fx b) De σ H := by
  obtain ⟨W0, H0, W, ρ, st, er, h⟩ := h
  refine ⟨W, H, W, ρ, st, er, At.flow h ?_⟩
  intro v o W1 H1 st1 x1 r1 h1
  cases v <;> cases o <;> first
    | exact r1.elim
    | exact ⟨W0, H0, W1, _, st1, r1, h1⟩
    | exact h1.pure W1 H1 (.cnt _) h1.1 h1.2.1 r1
    | exact h1.pure W1 H1 (.brk _) h1.1 h1.2.1 r1
    | exact h1.pure W1 H1 (.ret _) h1.1 h1.2.1 (DR.base (fun p n => h.1.fresh n) r1)
theorem frz_ref {i : Nat} {ρ : Env} {st : Store} {P : Env → Store → Prop} (w : MP.wp Xp (frzE i ρ) st P) : ∃ j xs, ρ[i]? = some (some (.ref j)) ∧ st[j]? = some (.lst xs) ∧ P (ρ.set i (some (.dat (.list xs)))) (st.set j .dead) := by
  unfold frzE at w
  cases hj : ρ[i]? with
  | none => rw [hj] at w; exact w.elim
  | some o =>
    cases o with
    | none => rw [hj] at w; exact w.elim
    | some d =>
      cases d with
      | ref j =>
        rw [hj] at w
        unfold MP.wp at w
        cases hst : st[j]? with
        | none => simp only [hst] at w
        | some c =>
          cases c with
          | lst xs => simp only [hst] at w; exact ⟨j, xs, rfl, hst, w⟩
          | _ => simp only [hst] at w
      | _ => rw [hj] at w; exact w.elim
theorem rS_frz {i : Nat} {b : Env → M Out} (h : rS Fx (fun ρ => frzE i ρ >>= b) De σ H) : rS Fx b De σ H := by
  obtain ⟨W0, H0, W, ρ, st, er, x, g, w⟩ := h
  rw [wp_bind] at w
  obtain ⟨j, xs, hj, hst, w⟩ := frz_ref w
  obtain ⟨v, hv, a, ha, rfl⟩ := er.2 i (.ref j) hj
  obtain ⟨n, vs, hl, q⟩ := g.live hst ha
  refine ⟨W0, H0, W.addI a, _, _, ?_, x.still (List.mem_of_getElem? ha), g.still ha, w⟩
  refine ⟨by rw [List.length_set, er.1], fun l d hd => ?_⟩
  by_cases hl' : i = l
  · subst hl'
    by_cases hlen : i < ρ.length
    · rw [List.getElem?_set_self hlen] at hd
      cases hd
      exact ⟨_, hv, .lst (.inl rfl) (.inl hl) q.own⟩
    · rw [List.getElem?_eq_none (by rw [List.length_set]; omega)] at hd
      cases hd
  · rw [List.getElem?_set_ne hl'] at hd
    obtain ⟨u, hu, r⟩ := er.2 l d hd
    exact ⟨u, hu, r.own⟩
theorem rS_for {mi : Env → M (List PyData)} {t : D → Env → M Env} {ns : List Nat} {b : Env → M Out} (h : rS Fx (fun ρ => mi ρ >>= fun xs => forGo (fun x ρ' => noX (t (.dat x) ρ') >>= fun ρ2 => b ρ2) xs ρ) De σ H) :
    tFor (rG (fun _ => Fx) RI mi) (rT t ns) (rS Fx b) De σ H := by
  obtain ⟨W0, H0, W, ρ, st, er, h⟩ := h
  refine ⟨W, ρ, st, er, (At.bind (R1 := RI) h).mono ?_⟩
  rintro J H1 ⟨xs, W1, st1, x1, y1, h1⟩
  refine ⟨fun i m σ Hc => m = xs.length - i ∧ i ≤ xs.length ∧ ∃ W2 ρ2 st2, Ext W1 H1 W2 Hc ∧ EnvR W2 Hc ρ2 σ ∧ At Fx W0 H0 ROut (forGo (fun x ρ' => noX (t (.dat x) ρ') >>= fun ρ2 => b ρ2) (xs.drop i) ρ2) W2 Hc st2 (toE De),
    ⟨xs.length, by simp, Nat.zero_le _, W1, ρ, st1, .refl, er.mono x1, h1⟩, ?_⟩
  rintro i m σ2 Hc ⟨rfl, hi, W2, ρ2, st2, x2, er2, h2⟩
  obtain ⟨ystop, ygo⟩ := y1 W2 Hc i x2
  by_cases hlt : i < xs.length
  · have hx : xs[i]? = some xs[i] := List.getElem?_eq_getElem hlt
    obtain ⟨go, yl⟩ := ygo _ hx
    rw [List.drop_eq_getElem_cons hlt] at h2
    refine .inr ⟨go, fun σ' H' => i + 1 ≤ xs.length ∧ ∃ W2 ρ2 st2, Ext W1 H1 W2 H' ∧ EnvR W2 H' ρ2 σ' ∧ At Fx W0 H0 ROut (forGo (fun x ρ' => noX (t (.dat x) ρ') >>= fun ρ2 => b ρ2) (xs.drop (i + 1)) ρ2) W2 H' st2 (toE De),
      fun σ' H' hw => ⟨xs.length - (i + 1), by omega, rfl, hw⟩, fun v H' hy => ?_⟩
    obtain ⟨W3, x3, dv, g3⟩ := yl v H' hy
    have h3 := h2.go (h2.1.trans x3) (g3 _ h2.2.1)
    unfold forGo at h3
    have h4 := At.assoc h3
    refine ⟨W3, H', W3, ρ2, st2, .dat xs[i], er2.mono x3, dv, (At.drop (At.bind (R1 := REnv) h4)).mono ?_⟩
    rintro σ4 H4 ⟨ρ4, W4, st4, x4, er4, h5⟩ _
    refine ⟨W4, H4, W4, ρ4, st4, er4, At.flow h5 ?_⟩
    intro w o W5 H5 st5 x5 r5 h6
    have x15 := (x2.trans x3).trans (x4.trans x5)
    cases w <;> cases o <;> first
      | exact r5.elim
      | exact ⟨hlt, W5, _, st5, x15, r5, h6⟩
      | exact h6.pure W5 H5 (.next _) h6.1 h6.2.1 r5
      | exact h6.pure W5 H5 (.ret _) h6.1 h6.2.1 (DR.base (fun p n => h5.1.fresh n) r5)
  · have e : i = xs.length := by omega
    subst e
    rw [List.drop_length] at h2
    exact .inl ⟨ystop (Nat.le_refl _), At.next (ρ := ρ2) h2 er2⟩
theorem rS_while {c : Env → M Bool} {b : Env → M Out} {n : Nat} (h : rS Fx (fun ρ => whileGo c b n ρ) De σ H) : tWhile (rG (fun _ => Fx) REq c) (rS Fx b) De σ H := by
  obtain ⟨W0, H0, W, ρ, st, er, h⟩ := h
  refine ⟨fun m σ Hc => ∃ W2 ρ2 st2, EnvR W2 Hc ρ2 σ ∧ At Fx W0 H0 ROut (whileGo c b m ρ2) W2 Hc st2 (toE De), ⟨n, W, ρ, st, er, h⟩, ?_⟩
  rintro m σ2 Hc ⟨W2, ρ2, st2, er2, h2⟩
  cases m with
  | zero => exact h2.2.2.elim
  | succ m =>
    unfold whileGo at h2
    refine ⟨W2, ρ2, st2, er2, (At.bind (R1 := REq) h2).mono ?_⟩
    rintro k H3 ⟨k', W3, st3, x3, rfl, h3⟩
    cases k with
    | false =>
      rw [if_neg (by decide)]
      exact At.next h3 (er2.mono x3)
    | true =>
      rw [if_pos rfl]
      refine ⟨fun σ' H' => ∃ W2 ρ2 st2, EnvR W2 H' ρ2 σ' ∧ At Fx W0 H0 ROut (whileGo c b m ρ2) W2 H' st2 (toE De), fun σ' H' hw => ⟨m, Nat.lt_succ_self m, hw⟩, W3, H3, W3, ρ2, st3, er2.mono x3, At.flow h3 ?_⟩
      intro w o W5 H5 st5 x5 r5 h6
      cases w <;> cases o <;> first
        | exact r5.elim
        | exact ⟨W5, _, st5, r5, h6⟩
        | exact h6.pure W5 H5 (.next _) h6.1 h6.2.1 r5
        | exact h6.pure W5 H5 (.ret _) h6.1 h6.2.1 (DR.base (fun p n => h3.1.fresh n) r5)
end
end MP
end MSt

section MSs
set_option Elab.async false
set_option linter.all false
set_option maxRecDepth 100000
set_option autoImplicit false
set_option maxHeartbeats 8000000
/-! MSs: the machine does at statements what the evaluator says: the proof by the syntax. -/
namespace MP
open PySem PySem.Spec PyProof.Rows L2

section
variable {T : Tab} {xr : XR} {CX : CXT} {EX : L2.St → XK} {C : Ctx} {k : Nat} {X : Cx} {N : List Str} {sc : Scope} {fq : Str → Bool}
theorem noComp_sw {e : Expr} {tg : Option Expr} {l : Nat} {env : PySem.Env} (h : noComp e = true) : swapsWith e tg l env = pure false := by
  cases e <;> first | rfl | (cases h)
theorem st_none {tg e : Expr} {env : PySem.Env} (h : ((noTup tg && noLst tg) || (noTup e && noLst tg)) = true) (h2 : noLst tg = true) : swappedStores [tg] e env = pure none := by
  cases tg <;> first
    | rfl
    | (cases h2; done)
    | (cases e <;> first | rfl | (cases h; done))
theorem filt_le {f : Expr → Option Str} : ∀ {ts : List Expr}, (ts.filterMap f).length ≤ ts.length
  | [] => Nat.le_refl _
  | t :: ts => by
    rw [List.filterMap_cons]
    have := filt_le (f := f) (ts := ts)
    cases f t with
    | none => rw [List.length_cons]; simp only; omega
    | some _ => rw [List.length_cons]; simp only [List.length_cons]; omega
theorem filt_lt {f : Expr → Option Str} {sc : Scope} : ∀ {ts : List Expr}, (∀ t, notLocal sc t = true → f t = none) → ts.any (notLocal sc) = true → (ts.filterMap f).length < ts.length
  | [], _, h => by cases h
  | t :: ts, hf, h => by
    rw [List.any_cons, Bool.or_eq_true] at h
    rw [List.filterMap_cons]
    have le := filt_le (f := f) (ts := ts)
    rcases h with h | h
    · rw [hf t h, List.length_cons]
      simp only
      omega
    · have := filt_lt hf h
      cases f t with
      | none => rw [List.length_cons]; simp only; omega
      | some _ => rw [List.length_cons]; simp only [List.length_cons]; omega
theorem any2 {f : Expr → Bool} {a b : Expr} (ha : f a = false) (hb : f b = false) : [a, b].any f = false := by
  simp [ha, hb]
theorem filt2 {f : Expr → Option Str} {a b : Expr} {x y : Str} (ha : f a = some x) (hb : f b = some y) : [a, b].filterMap f = [x, y] := by
  simp [ha, hb]
theorem st_tup {ts vs : List Expr} {a b : Nat} {p q : Pos} {sc : Scope} {env : PySem.Env} (hsc : env.scope = sc) (h : (!(ts.length == 2 || ts.length == 3) || ts.any (notLocal sc)) = true) : swappedStores [.Tuple ts a p] (.Tuple vs b q) env = pure none := by
  unfold swappedStores
  simp only []
  split
  · rfl
  · rename_i h1
    split
    · rfl
    · have h3 : ts.any (notLocal sc) = true := by
        cases hl : (ts.length == 2 || ts.length == 3) with
        | true => rw [hl] at h; exact h
        | false => rw [hl] at h1; simp at h1
      have hlt : ∀ f : Expr → Option Str, (∀ t, notLocal sc t = true → f t = none) → ((ts.filterMap f).length != ts.length) = true := fun f hf => by
        have := filt_lt hf h3
        rw [bne_iff_ne]
        omega
      rw [if_pos]
      rw [Bool.or_eq_true]
      refine .inl (hlt _ fun t ht => ?_)
      cases t <;> first | rfl | skip
      rename_i y py
      simp only [notLocal, Bool.not_eq_true'] at ht
      have : (env.kindOf y == some NameKind.local) = false := by
        show (env.scope.names.lookup y == some NameKind.local) = false
        rw [hsc]
        exact ht
      simp only [this]
      rfl
theorem st_par {x y : Str} {px py pt pt2 : Pos} {kt k2 : Nat} {a b : Expr} {env : PySem.Env} (hk : env.scope.kind = .function) (hx : env.scope.names.lookup x = some .local) (hy : env.scope.names.lookup y = some .local) (ne : x ≠ y) (hl : px.line = py.line)
    (s1 : noStar a = true) (s2 : noStar b = true) (f : ([a, b].all (foldedForSure 8)) = false) (c : ([a, b].all (constantsAlone 8)) = false) : swappedStores [.Tuple [.Name x px, .Name y py] kt pt] (.Tuple [a, b] k2 pt2) env = pure (some [x, y]) := by
  have kx : env.kindOf x = some .local := hx
  have ky : env.kindOf y = some .local := hy
  have hb : env.blockKind = .function := by unfold Env.blockKind; rw [hk]; rfl
  have st : ∀ e : Expr, noStar e = true → (match e with | .Starred .. => true | _ => false) = false := fun e h => by cases e <;> first | rfl | (cases h)
  unfold swappedStores
  simp only []
  have ne' : (y == x) = false := by rw [beq_eq_false_iff_ne]; exact Ne.symm ne
  have e1 : (!([Expr.Name x px, Expr.Name y py].length == 2 || [Expr.Name x px, Expr.Name y py].length == 3) || [a, b].length != [Expr.Name x px, Expr.Name y py].length || env.blockKind != .function) = false := by rw [hb]; rfl
  rw [if_neg (by rw [e1]; decide)]
  rw [if_neg (by rw [any2 (by cases a <;> first | rfl | (cases s1)) (by cases b <;> first | rfl | (cases s2))]; decide)]
  rw [filt2 (x := x) (y := y) (by simp [kx, Expr.pos]) (by simp [ky, Expr.pos, hl])]
  have e4 : ([x, y].length != [Expr.Name x px, Expr.Name y py].length || [x, y].eraseDups.length != [x, y].length) = false := by
    simp [List.eraseDups_cons, ne']
  rw [if_neg (by rw [e4]; decide), if_neg (by rw [f]; decide), if_neg (by rw [c]; decide)]
/-- what is known where statements run -/
structure SOk (X : Cx) : Prop where
  kind : X.env.scope.kind = .function
  own : PassesOwn (model X.prog X.w) X.A X.env X.xe
def fxOf (xr : XR) (E : XK) : FX := fun W H x => ∀ c d, xr W.im H x c d → E c d H
/-- a subscript's store with an operator, by values -/
def rGetL : V → V → Hp → VK → Prop := fun x y H Q => ∃ p xs i j v, x = .ref p ∧ y = .int i ∧ H p = some (.lst xs) ∧ ixN xs.length i = some j ∧ -(2 ^ 62) ≤ i ∧ i < 2 ^ 62 ∧ xs[j]? = some v ∧ Q v H
theorem get_L : PGet X rGetL := by
  intro pins s σ H x y ov iv Q I rx ry h
  obtain ⟨p, xs, i, j, v, rfl, rfl, hp, hj, b1, b2, hv, q⟩ := h
  cases rx
  obtain ⟨t, rfl⟩ := ry
  obtain ⟨its, r, pl, hz⟩ := I.list (.inl (.inl hp))
  obtain ⟨u, hu, ru⟩ := r.get hv
  have hl := r.length
  obtain ⟨s1, s2, s3, s4⟩ := ixN_seq hj
  by_cases h0 : 0 ≤ i
  · have e : i.toNat = j := by
      unfold ixN at hj
      rw [if_pos h0, if_pos s4] at hj
      exact Option.some.inj hj
    exact wpAny_getItem_list pl.isList h0 (by omega) (x := u) (by rw [e]; simpa using hu) ⟨v, H, I, ru, q⟩
  · have e : (i + (its.toArray.size : Int)).toNat = j := by
      unfold ixN at hj
      rw [if_neg h0, if_pos s3] at hj
      rw [List.size_toArray, ← hl]
      exact Option.some.inj hj
    exact wpAny_getItem_list_neg pl.isList (by omega) (by rw [List.size_toArray, ← hl]; omega) (by omega) (x := u) (by rw [e]; simpa using hu) ⟨v, H, I, ru, q⟩
theorem At.dvInt {u : PyData} {i : Int} (h : toInt u = some i) : u = .int i := by
  unfold toInt at h
  split at h <;> cases h
  rfl
def augM (op : Bop) (ma mb me : Env → M D) (ρ : Env) : M Out := do
    let p ← ma ρ
    let y ← mb ρ
    let k ← asInt y
    let i ← refOf p
    let xs ← cellAt i
    guardB (small k)
    let j ← ofO (ixPl xs.length k)
    let old ← ofO xs[j]?
    let z ← me ρ
    let u ← look z
    let r ← ofO (augV op old u)
    let xs' ← cellAt i
    let j' ← ofO (ixPl xs'.length k)
    putCell i (.lst (xs'.set j' r))
    pure (.next ρ)
def augF : Bop → Int → Int → Int
  | .sub => fun i j => i - j
  | _ => fun i j => i + j
theorem rS_aug {Fx : FX} {K : PySem.W.Frag} {De : Ends} {σ : L2.St} {H : Hp} {op : Bop} {ma mb me : Env → M D} (hop : op = .add ∨ op = .sub) (h : rS Fx (augM op ma mb me) De σ H) : tAugS (rG (fun _ => Fx) DR ma) (rG (fun _ => Fx) DR mb) (rG (fun _ => Fx) DR me) rGetL (ipI (augF op)) rSetL De σ H := by
  obtain ⟨W0, H0, W, ρ, st, er, h⟩ := h
  unfold augM at h
  refine ⟨W, ρ, st, er, (At.bind (R1 := DR) h).mono ?_⟩
  rintro o H1 ⟨p, W1, st1, x1, r1, h1⟩
  refine ⟨W1, ρ, st1, er.mono x1, (At.bind (R1 := DR) h1).mono ?_⟩
  rintro y H2 ⟨dy, W2, st2, x2, r2, h2⟩
  obtain ⟨k, rfl, h3⟩ := h2.asInt r2
  obtain ⟨i, a, rfl, ha, rfl, h4⟩ := h3.refOf (r1.mono x2)
  obtain ⟨xs, vs, _, n, hv, q, h5⟩ := h4.cellAt ha
  obtain ⟨hs, h6⟩ := h5.guard
  have hs' : -1000000 ≤ k ∧ k ≤ 1000000 := by simpa [small] using hs
  obtain ⟨j, hj, h7⟩ := h6.ofO
  obtain ⟨old, ho, h8⟩ := h7.ofO
  obtain ⟨v, hv', dv⟩ := q.get ho
  refine ⟨a, vs, k, j, v, rfl, rfl, hv, by rw [q.length]; exact hj, by omega, by omega, hv', ?_⟩
  refine ⟨W2, ρ, st2, (er.mono x1).mono x2, (At.bind (R1 := DR) h8).mono ?_⟩
  rintro z H3 ⟨dz, W3, st3, x3, r3, h9⟩
  obtain ⟨u, hu, h10⟩ := h9.look r3
  obtain ⟨r, hr, h11⟩ := h10.ofO
  have ha3 : W3.eta[i]? = some a := x3.at ha
  obtain ⟨xs', vs', _, n', hv3, q', h12⟩ := h11.cellAt ha3
  obtain ⟨j', hj', h13⟩ := h12.ofO
  have dv3 := x3.dv dv
  have fin : ∀ w : Int, r = .int w → rSetL (.ref a) (.int k) (.int w) H3 fun H4 => De.nx σ H4 := fun w e => by
    subst e
    refine ⟨a, vs', k, j', rfl, rfl, hv3, by rw [q'.length]; exact hj', ?_⟩
    have h14 := h13.putCell (o := .lst (vs'.set j' (.int w))) ha3 n' ⟨n', _, upd_same, DvAll.set (.int w) j' (q'.write n')⟩
    exact h14.next (((er.mono x1).mono (x2.trans x3)).write n')
  rcases hop with rfl | rfl
  · unfold augV at hr
    split at hr <;> first | (cases hr; done) | skip
    · cases hr
      cases dv3
      exact ⟨_, _, rfl, hu.int, fin _ rfl⟩
    · rename_i z; cases z
  · unfold augV at hr
    split at hr <;> first | (cases hr; done) | skip
    · rename_i z; cases z
    · cases hr
      cases dv3
      exact ⟨_, _, rfl, hu.int, fin _ rfl⟩
end
end MP
end MSs

section MSq
set_option Elab.async false
set_option linter.all false
set_option maxRecDepth 100000
set_option autoImplicit false
set_option maxHeartbeats 8000000
/-! MSq: the machine does at statements what the evaluator says: all of them; a def; a program. -/
namespace MP
open PySem PySem.Spec PyProof.Rows L2

section
variable {T : Tab} {xr : XR} {CX : CXT} {E : XK} {C : Ctx} {k : Nat} {N : List Str}
theorem rS_eq' {Fx : FX} {m m' : Env → M Out} {D : Ends} {σ : L2.St} {H : Hp} (i : ∀ ρ Xp st P, wp Xp (m ρ) st P → wp Xp (m' ρ) st P) (h : rS Fx m D σ H) : rS Fx m' D σ H := by
  obtain ⟨W0, H0, W, ρ, st, er, x, g, w⟩ := h
  exact ⟨W0, H0, W, ρ, st, er, x, g, i _ _ _ _ w⟩
theorem aug_store {i : Expr} (h : noSlice i = true) (ov iv new : Value) : augStore i ov iv new = (do holding [new, ov, iv] (setItem ov iv new); release [new, ov, iv] []; pure .next) := by
  cases i <;> first | rfl | (cases h)
theorem asg_ok {X : Cx} {sc : Scope} {fq : Str → Bool} {EX : L2.St → XK} {t e : Expr} {p : Pos} {te : TE} {g : TG} (x : XOk T xr CX EX C k X N sc fq) (s1 : noStar t = true) (h : (asgOk sc t e = true ∧ ∀ y py elt gs scope p', t = .Name y py → e = .ListComp elt gs scope p' → sc.names.lookup y = some .cell)) (he : PE X e te) (hg : PG X t g) : PS X (.Assign [t] e p) (tAsg te g) := by
  obtain ⟨h, hc⟩ := h
  have e1 : (assignEach [t] X.env).map (·.2) = [assign t X.env] := by rw [asg_cons s1] <;> rfl
  unfold asgOk at h
  split at h
  · rename_i y py elt gs scope p'
    have hcell := hc y py elt gs scope p' rfl rfl
    refine ps_asg he hg ?_ rfl e1
    have ky : X.env.kindOf y = some .cell := by show X.env.scope.names.lookup y = _; rw [x.scope]; exact hcell
    show (pure (X.env.blockKind == .function && X.env.kindOf y == some .local && py.line == p'.line && !(scope.names.any fun (n, k) => n == y && (k == .local || k == .cell))) : Sem Bool) = pure false
    rw [ky]
    have z : ((some NameKind.cell) == some NameKind.local) = false := by decide
    rw [z, Bool.and_false, Bool.false_and, Bool.false_and]
  · exact ps_asg he hg rfl (st_tup x.scope h) e1
  · rename_i ht
    simp only [Bool.and_eq_true] at h
    refine ps_asg he hg (noComp_sw h.1) (st_none ?_ h.2) e1
    rw [h.2]
    cases t <;> first | rfl | skip
    cases e <;> first | rfl | skip
    exact (ht _ _ _ _ _ _ rfl rfl).elim
theorem sndLc {X : Cx} {sc : Scope} {fq : Str → Bool} (x : XOk T xr CX (fun _ => E) C k X N sc fq) (o : SOk X) {y : Str} {py p p' : Pos} {elt : Expr} {gs : List Comprehension} {scope : Scope} {ix : Nat} (h1 : N[ix]? = some y) (hy : sc.names.lookup y = some .local)
    (h4 : py.line = p'.line) (h5 : (scope.names.any fun nk => nk.1 == y && (nk.2 == .local || nk.2 == .cell)) = false) : ∀ (e : Ex), chkE T N sc fq e (.ListComp elt gs scope p') = true →
    PS X (.Assign [.Name y py] (.ListComp elt gs scope p') p) (tAsg (rG (fun _ => fxOf xr E) DR (evE C e)) (gName ix))
  | .comp elt0 tg0 it0 ifs0 own0, h2 => by
    unfold chkE at h2
    split at h2
    · rename_i heq
      cases heq
      simp only [Bool.and_eq_true] at h2
      obtain ⟨⟨⟨⟨⟨⟨c1, c2⟩, c3⟩, c4⟩, c5⟩, c6⟩, c7⟩ := h2
      have hns : ∀ i ∈ tgNames tg0, i ∈ own0.map (·.2) := fun i hi => of_decide_eq_true (List.all_eq_true.mp c7 i hi)
      have hyl : X.env.scope.names.lookup y = some .local := by rw [x.scope]; exact hy
      exact (ps_setLc (i := ix) x.calm (by rw [x.names]; exact x.nd) (by rw [x.names]; exact h1) hyl (sw_true o.kind hyl (by rw [h4]; exact beq_self_eq_true _) h5) (sndIt it0 x c3) (blk_ok x c1)
        (fun s H c cl fp => sndTg tg0 (x.blk s H _ c cl fp) c4) (fun s H c cl fp => sndIf ifs0 (x.blk s H _ c cl fp) c5) (fun s H c cl fp => (sndE elt0 (x.blk s H _ c cl fp) c6).1) (noSet_fold c2)).imp fun D σ H w =>
        rG_lc (Ef := fun _ => fxOf xr E) hns (rG_eq (fun ρ => by rw [evE] <;> rfl) w)
    · cases h2
  | .cell e, h2 => by
    unfold chkE at h2
    exact (sndLc x o h1 hy h4 h5 e h2).imp fun D σ H w => rG_cell (rG_eq (fun ρ => by rw [evE]) w)
  | .var _, h2 => by unfold chkE at h2; cases h2
  | .con _, h2 => by unfold chkE at h2; cases h2
  | .glob _ _, h2 => by unfold chkE at h2; cases h2
  | .bin _ _ _, h2 => by unfold chkE at h2; cases h2
  | .neg _, h2 => by unfold chkE at h2; cases h2
  | .cmp _ _ _, h2 => by unfold chkE at h2; cases h2
  | .chain _ _ _ _ _, h2 => by unfold chkE at h2; cases h2
  | .isin _ _ _, h2 => by unfold chkE at h2; cases h2
  | .isinD _ _ _, h2 => by unfold chkE at h2; cases h2
  | .and _ _, h2 => by unfold chkE at h2; cases h2
  | .or _ _, h2 => by unfold chkE at h2; cases h2
  | .not _, h2 => by unfold chkE at h2; cases h2
  | .ife _ _ _, h2 => by unfold chkE at h2; cases h2
  | .tup _, h2 => by unfold chkE at h2; cases h2
  | .lst _, h2 => by unfold chkE at h2; cases h2
  | .emp _, h2 => by unfold chkE at h2; cases h2
  | .idx _ _, h2 => by unfold chkE at h2; cases h2
  | .idxD _ _, h2 => by unfold chkE at h2; cases h2
  | .slc _ _ _, h2 => by unfold chkE at h2; cases h2
  | .bi _ _, h2 => by unfold chkE at h2; cases h2
  | .lrng _, h2 => by unfold chkE at h2; cases h2
  | .isi _ ts par, h2 => by unfold chkE at h2; split at h2 <;> first | (rename_i q; cases q; done) | (cases h2; done)
  | .call _ _, h2 => by unfold chkE at h2; cases h2
  | .app _ _, h2 => by unfold chkE at h2; cases h2
  | .pop _, h2 => by unfold chkE at h2; cases h2
  | .popAt _ _, h2 => by unfold chkE at h2; cases h2
  | .index _ _, h2 => by unfold chkE at h2; cases h2
mutual
theorem sndSt : ∀ (s : St) {X : Cx} {sc : Scope} {fq : Str → Bool} {s' : Stmt}, XOk T xr CX (fun _ => E) C k X N sc fq → SOk X → chkSt T N sc fq s s' = true → PS X s' (rS (fxOf xr E) (evSt C s))
  | .asg t e, X, sc, fq, s', x, o, h => by
    unfold chkSt at h
    split at h
    · rename_i t' e' p
      simp only [Bool.and_eq_true] at h
      obtain ⟨⟨⟨h1, h2⟩, h3⟩, h4⟩ := h
      by_cases hl : ∃ y py elt gs scope p', t' = .Name y py ∧ e' = .ListComp elt gs scope p' ∧ sc.names.lookup y = some .local
      · obtain ⟨y, py, elt, gs, scope, p', rfl, rfl, hy⟩ := hl
        unfold asgOk at h4
        simp only [hy, Bool.and_eq_true, decide_eq_true_eq, Bool.not_eq_true'] at h4
        cases t with
        | name ix =>
          unfold chkTg at h1
          simp only [Bool.and_eq_true, decide_eq_true_eq] at h1
          exact (sndLc x o h1.1 hy h4.1 h4.2 e h2).imp fun D σ H w => by
            have w2 := rS_asg (ns := [ix]) (rS_eq (fun ρ => by rw [evSt]) w)
            exact rG_mono w2 fun v H1 q => tg_name (rT_eq (fun d ρ => by rw [evTg]) rfl q)
        | tup _ => unfold chkTg at h1; cases h1
        | sub _ _ => unfold chkTg at h1; cases h1
        | subD _ _ => unfold chkTg at h1; cases h1
      · refine (asg_ok x h3 ⟨h4, fun y py elt gs scope p' e1 e2 => ?_⟩ (sndE e x h2).1 (sndTg t x h1)).imp fun D σ H w => rS_asg (rS_eq (fun ρ => by rw [evSt]) w)
        subst e1 e2
        unfold asgOk at h4
        simp only at h4
        split at h4
        · rename_i hy
          exact (hl ⟨y, py, elt, gs, scope, p', rfl, rfl, hy⟩).elim
        · assumption
        · cases h4
    · cases h
  | .par i j es, X, sc, fq, s', x, o, h => by
    unfold chkSt at h
    split at h
    · rename_i xn px yn py kt pt a' b' k2 pt2 p
      simp only [Bool.and_eq_true, decide_eq_true_eq, Bool.not_eq_true'] at h
      obtain ⟨⟨⟨⟨⟨⟨⟨⟨⟨⟨⟨h1, h2⟩, h3⟩, h4⟩, h5⟩, h6⟩, h7⟩, h8⟩, h9⟩, h10⟩, h11⟩, h12⟩ := h
      have hx : X.env.scope.names.lookup xn = some .local := by
        rw [x.scope]
        split at h4
        · assumption
        · cases h4
      have hy : X.env.scope.names.lookup yn = some .local := by
        rw [x.scope]
        split at h5
        · assumption
        · cases h5
      exact (ps_par x.calm (by rw [x.names]; exact x.nd) (by rw [x.names]; exact h1) (by rw [x.names]; exact h2) h3 hx hy (sndEs es x h12).2 (st_par o.kind hx hy h6 h7 h8 h9 h10 h11)).imp fun D σ H w => rS_par (rS_eq (fun ρ => by rw [evSt] <;> rfl) w)
    · cases h
  | .aug a b op e, X, sc, fq, s', x, o, h => by
    unfold chkSt at h
    split at h
    · simp only [Bool.and_eq_true, decide_eq_true_eq] at h
      obtain ⟨⟨⟨⟨⟨h1, h0⟩, h2⟩, h3⟩, h4⟩, h5⟩ := h
      subst h2
      have hop : op = .add ∨ op = .sub := by cases op <;> first | exact .inl rfl | exact .inr rfl | (cases h0; done)
      rcases hop with rfl | rfl
      · exact (ps_augS (sndE a x h3).1 (sndE b x h4).1 get_L (sndE e x h5).1 ip_add set_list (aug_store h1)).imp fun D σ H w => rS_aug (K := X.K) (op := .add) (.inl rfl) (rS_eq (fun ρ => by rw [evSt]; rfl) w)
      · exact (ps_augS (sndE a x h3).1 (sndE b x h4).1 get_L (sndE e x h5).1 ip_sub set_list (aug_store h1)).imp fun D σ H w => rS_aug (K := X.K) (op := .sub) (.inr rfl) (rS_eq (fun ρ => by rw [evSt]; rfl) w)
    · cases h
  | .expr e, X, sc, fq, s', x, o, h => by
    unfold chkSt at h
    split at h
    · simp only [Bool.and_eq_true] at h
      exact (ps_expr (sndE e x h.2).1 (noComp_sw h.1)).imp fun D σ H w => rS_expr (rS_eq (fun ρ => by rw [evSt]) w)
    · cases h
  | .ret e, X, sc, fq, s', x, o, h => by
    unfold chkSt at h
    split at h
    · exact (ps_ret (sndE e x h).1).imp fun D σ H w => rS_ret (rS_eq (fun ρ => by rw [evSt]) w)
    · cases h
  | .ife c a b, X, sc, fq, s', x, o, h => by
    unfold chkSt at h
    split at h
    · simp only [Bool.and_eq_true] at h
      obtain ⟨⟨⟨h1, h2⟩, h3⟩, h4⟩ := h
      exact (ps_if ((sndE c x h2).2 h1) (sndSts a x o h3) (sndSts b x o h4)).imp fun D σ H w => rS_if (rS_eq' (fun ρ Xp st P w => by rw [evSt] at w; simp only [wp_bind] at w ⊢; exact wp_mono w fun _ _ w => wp_mono w fun k _ w => by cases k <;> exact w) w)
    · cases h
  | .for_ t it body, X, sc, fq, s', x, o, h => by
    unfold chkSt at h
    split at h
    · simp only [Bool.and_eq_true] at h
      obtain ⟨⟨⟨h1, h2⟩, h3⟩, h4⟩ := h
      exact (ps_for o.own x.calm (sndIt it x h2) (sndTg t x h3) (sndSts body x o h4) (noSet_fold h1)).imp fun D σ H w => rS_for (rS_eq (fun ρ => by rw [evSt]) w)
    · cases h
  | .while_ c body, X, sc, fq, s', x, o, h => by
    unfold chkSt at h
    split at h
    · simp only [Bool.and_eq_true] at h
      obtain ⟨⟨h1, h2⟩, h3⟩ := h
      exact (ps_while o.own ((sndE c x h2).2 h1) (sndSts body x o h3)).imp fun D σ H w => rS_while (n := C.fuel) (rS_eq (fun ρ => by rw [evSt]) w)
    · cases h
  | .brk, X, sc, fq, s', x, o, h => by
    unfold chkSt at h
    split at h
    · exact ps_break.imp fun D σ H w => by
        obtain ⟨W0, H0, W, ρ, st, er, h⟩ := w
        rw [evSt] at h
        exact h.pure W H (.brk σ) h.1 h.2.1 er
    · cases h
  | .cnt, X, sc, fq, s', x, o, h => by
    unfold chkSt at h
    split at h
    · exact ps_continue.imp fun D σ H w => by
        obtain ⟨W0, H0, W, ρ, st, er, h⟩ := w
        rw [evSt] at h
        exact h.pure W H (.cnt σ) h.1 h.2.1 er
    · cases h
  | .pass, X, sc, fq, s', x, o, h => by
    unfold chkSt at h
    split at h
    · exact ps_pass.imp fun D σ H w => by
        obtain ⟨W0, H0, W, ρ, st, er, h⟩ := w
        rw [evSt] at h
        exact h.next er
    · cases h
theorem sndSts : ∀ (ss : Sts) {X : Cx} {sc : Scope} {fq : Str → Bool} {ss' : List Stmt}, XOk T xr CX (fun _ => E) C k X N sc fq → SOk X → chkSts T N sc fq ss ss' = true → PSs X ss' (rS (fxOf xr E) (evSts C ss))
  | .nil, X, sc, fq, [], x, o, h => pss_nil.imp fun D σ H w => by
      obtain ⟨W0, H0, W, ρ, st, er, h⟩ := w
      rw [evSts] at h
      exact h.next er
  | .nil, X, sc, fq, _ :: _, x, o, h => by unfold chkSts at h; cases h
  | .cons _ _, X, sc, fq, [], x, o, h => by unfold chkSts at h; cases h
  | .cons s r, X, sc, fq, s' :: r', x, o, h => by
    unfold chkSts at h
    simp only [Bool.and_eq_true] at h
    exact (pss_cons (sndSt s x o h.1) (sndSts r x o h.2)).imp fun D σ H w => rS_seq (rS_eq (fun ρ => by rw [evSts] <;> rfl) w)
  | .frz i r, X, sc, fq, ss', x, o, h => by
    unfold chkSts at h
    exact (sndSts r x o h).imp fun D σ H w => rS_frz (rS_eq (fun ρ => by rw [evSts]) w)
end
end
end MP
end MSq

section MDef
set_option Elab.async false
set_option linter.all false
set_option maxRecDepth 100000
set_option autoImplicit false
set_option maxHeartbeats 8000000
/-! MDef: a def, a program. -/
namespace MP
open PySem PySem.Spec PyProof.Rows L2

/-! ### how arguments bind -/
theorem zip_some : ∀ {ps : List Str} {us : List Value}, us.length = ps.length → ∀ n ∈ ps, ((ps.zip us).lookup n).isSome = true
  | [], _, _, n, h => by cases h
  | p :: ps, [], hl, n, h => by cases hl
  | p :: ps, u :: us, hl, n, h => by
    rw [List.zip_cons_cons, List.lookup_cons]
    by_cases e : n = p
    · rw [e]; simp
    · have e' : (n == p) = false := by rw [beq_eq_false_iff_ne]; exact e
      rw [e']
      exact zip_some (by simpa using hl) n ((List.mem_cons.mp h).resolve_left e)
theorem zip_filt : ∀ {ps : List Str} {us : List Value}, ps.Nodup → us.length = ps.length → (ps.filterMap fun n => ((ps.zip us).lookup n).map (n, ·)) = ps.zip us
  | [], [], _, _ => rfl
  | [], _ :: _, _, hl => by cases hl
  | p :: ps, [], _, hl => by cases hl
  | p :: ps, u :: us, nd, hl => by
    have nd' := List.nodup_cons.mp nd
    rw [List.zip_cons_cons, List.filterMap_cons]
    have e1 : (List.lookup p ((p, u) :: ps.zip us)) = some u := by rw [List.lookup_cons]; simp
    rw [e1]
    simp only [Option.map_some]
    congr 1
    have key : ∀ {l : List Str}, (∀ n ∈ l, n ≠ p) → (l.filterMap fun n => (List.lookup n ((p, u) :: ps.zip us)).map (n, ·)) = l.filterMap fun n => ((ps.zip us).lookup n).map (n, ·) := fun {l} hq => by
      induction l with
      | nil => rfl
      | cons n l ih =>
        have e' : (n == p) = false := by rw [beq_eq_false_iff_ne]; exact hq n (List.mem_cons_self ..)
        rw [List.filterMap_cons, List.filterMap_cons, ih fun m hm => hq m (List.mem_cons_of_mem _ hm), List.lookup_cons, e']
    rw [key fun n hn z => nd'.1 (z ▸ hn)]
    exact zip_filt nd'.2 (by simpa using hl)
theorem bind_plain {fd : FuncData} {us : List Value} (h1 : fd.params.posonlyargs = []) (h2 : fd.params.kwonlyargs = []) (h3 : fd.params.vararg = none) (h4 : fd.params.kwarg = none) (hd : fd.defaults = .none) (nd : (fd.params.args.map (·.arg)).Nodup) (hl : us.length = (fd.params.args.map (·.arg)).length) :
    bindArgs fd ⟨us, []⟩ = pure ((fd.params.args.map (·.arg)).zip us) := by
  unfold bindArgs
  simp only [h1, h2, h3, h4, hd, List.map_nil, List.nil_append, List.append_nil]
  have hz := zip_some hl
  have hf := zip_filt nd hl
  generalize fd.params.args.map (·.arg) = ps at *
  have e0 : seqItems? Value.none = pure none := rfl
  rw [e0]
  have e1 : (decide (us.length > ps.length) && (none : Option Arg).isNone) = false := by simp [hl]
  have e2 : (ps.filter fun n => ((ps.zip us).lookup n).isNone) = [] := by
    rw [List.filter_eq_nil_iff]
    intro n hn
    have := hz n hn
    cases q : (ps.zip us).lookup n with
    | none => rw [q] at this; cases this
    | some _ => simp
  simp [e1, e2, hf]
  intro hb
  omega

/-! ### the callee's own cells are gone -/
theorem leave_lo {i n : Nat} {st : Store} (h : i < n) : leave n (.ref i) st = .ok (.ref i) (st.take n) := by
  exact congrFun (if_pos h : (if i < n then _ else _ : M D) = _) st
theorem leave_hi {i n : Nat} {st : Store} (h : ¬ i < n) : leave n (.ref i) st = (match st[i]? with
    | some (.lst xs) => .ok (.newL xs) (st.take n)
    | some (.dct t kvs) => .ok (.newD t kvs) (st.take n)
    | _ => .no) := by
  exact congrFun (if_neg h : (if i < n then _ else _ : M D) = _) st
def cutW (W : Wd) (n : Nat) : Wd := ⟨W.eta.take n, W.im⟩
section
variable {W W' : Wd} {H H' : Hp} {st' : Store} {n : Nat}
theorem Ext.cutW (x : Ext W H W' H') (hn : W.eta.length = n) : Ext W H (cutW W' n) H' := by
  obtain ⟨t, e⟩ := x.pre
  have e2 : W'.eta.take n = W.eta := by rw [e, ← hn, List.take_left]
  exact ⟨⟨[], by show W'.eta.take n = _; rw [e2, List.append_nil]⟩, x.im, x.frm, x.newI, fun a h => .inl (by rw [← e2]; exact h), x.dom⟩
theorem Gd.cutW (g : Gd W' st' H') : Gd (cutW W' n) (st'.take n) H' where
  len := by show (W'.eta.take n).length = _; rw [List.length_take, List.length_take, g.len]
  nd := (List.take_sublist n W'.eta).nodup g.nd
  cells := fun i c a e1 e2 => by
    have e2 : (W'.eta.take n)[i]? = some a := e2
    rw [List.getElem?_take] at e1 e2
    split at e1
    · rename_i hi
      rw [if_pos hi] at e2
      have := g.cells i c a e1 e2
      cases c with
      | lst xs => exact this
      | dct t kvs => exact this
      | dead => trivial
    · cases e1
  imm := g.imm
  tr := fun a h => g.tr a ((List.take_sublist n W'.eta).subset h)
theorem leave_ok {Xp : Exc → Store → Prop} {d : D} {v : V} {P : D → Store → Prop} {Q : V → Hp → Prop} (w : wp Xp (leave n d) st' P) (x : Ext W H W' H') (g : Gd W' st' H') (hn : W.eta.length = n) (r : DR H W' H' v d)
    (i : ∀ d2 st2, P d2 st2 → ∀ W2 H2 v, Ext W H W2 H2 → Gd W2 st2 H2 → DR H W2 H2 v d2 → Q v H2) : Q v H' := by
  have loose : ∀ p, Loose W' H' p → Loose (cutW W' n) H' p := fun p l => ⟨l.1, l.2.1, fun z => l.2.2 ((List.take_sublist n W'.eta).subset z)⟩
  cases d with
  | dat d => exact i _ _ w _ _ _ (x.cutW hn) g.cutW (show Dv W'.im H' v d from r)
  | newL xs =>
    obtain ⟨p, vs, e, h, l, m, q⟩ := r
    exact i _ _ w _ _ _ (x.cutW hn) g.cutW ⟨p, vs, e, h, loose p l, m, q⟩
  | newD t kvs =>
    obtain ⟨p, e, l, m, q⟩ := r
    exact i _ _ w _ _ _ (x.cutW hn) g.cutW ⟨p, e, loose p l, m, q⟩
  | ref j =>
    obtain ⟨a, ha, rfl⟩ := r
    by_cases hj : j < n
    · have w' : P (.ref j) (st'.take n) := by
        unfold MP.wp at w
        rw [leave_lo hj] at w
        exact w
      exact i _ _ w' _ _ _ (x.cutW hn) g.cutW ⟨a, by show (W'.eta.take n)[j]? = _; rw [List.getElem?_take, if_pos hj]; exact ha, rfl⟩
    · unfold MP.wp at w
      rw [leave_hi hj] at w
      obtain ⟨t, et⟩ := x.pre
      have e2 : W'.eta.take n = W.eta := by rw [et, ← hn, List.take_left]
      have na : a ∉ W'.eta.take n := fun z => by
        obtain ⟨l, hl⟩ := List.mem_iff_getElem?.mp z
        rw [List.getElem?_take] at hl
        split at hl
        · rename_i hln
          have := (List.getElem?_inj (List.getElem?_eq_some_iff.mp hl).1 g.nd).mp (hl.trans ha.symm)
          omega
        · cases hl
      have fresh : H a = none := by
        rcases x.newE a (List.mem_of_getElem? ha) with z | z
        · exact (na (by rw [e2]; exact z)).elim
        · exact z
      cases hst : st'[j]? with
      | none => simp only [hst] at w
      | some c =>
        have ck := g.cells j c a hst ha
        cases c with
        | lst xs =>
          simp only [hst] at w
          obtain ⟨ni, vs, hv, q⟩ := ck
          exact i _ _ w _ _ _ (x.cutW hn) g.cutW ⟨a, vs, rfl, hv, ⟨by rw [hv]; simp, ni, na⟩, fresh, q⟩
        | dct t kvs =>
          simp only [hst] at w
          obtain ⟨ni, q⟩ := ck
          exact i _ _ w _ _ _ (x.cutW hn) g.cutW ⟨a, rfl, ⟨g.tr a (List.mem_of_getElem? ha), ni, na⟩, fresh, q⟩
        | dead => simp only [hst] at w
end

/-! ### a def -/
def scB (N P : List Str) (sc : Scope) : Bool := (match sc.kind with
    | .function => true
    | _ => false) && !sc.isCoroutine && !sc.isGenerator && decide N.Nodup && decide (N.take P.length = P) && P.all (fun x => match sc.names.lookup x with
    | some .local => true
    | some .cell => true
    | _ => false) && sc.names.all (fun y => match y.2 with
    | .free => false
    | _ => true)
theorem scB_of {N P : List Str} {sc : Scope} (h : scB N P sc = true) : FnScope N P sc := by
  unfold scB at h
  simp only [Bool.and_eq_true, Bool.not_eq_true', decide_eq_true_eq, List.all_eq_true] at h
  obtain ⟨⟨⟨⟨⟨⟨h1, h2⟩, h3⟩, h4⟩, h5⟩, h6⟩, h7⟩ := h
  refine ⟨?_, h2, h3, h4, h5, fun x hx => ?_, fun y hy z => ?_⟩
  · split at h1
    · assumption
    · cases h1
  · have := h6 x hx
    split at this
    · exact .inl (by assumption)
    · exact .inr (by assumption)
    · cases this
  · have := h7 y hy
    rw [z] at this
    cases this
def argB (ps : List Str) (a : Arguments) : Bool := a.posonlyargs.isEmpty && a.kwonlyargs.isEmpty && a.vararg.isNone && a.kwarg.isNone && decide (a.args.map (·.arg) = ps)
theorem argB_of {K : PySem.W.Frag} {x qual : Str} {st : Stmt} {f : Addr} {fd : FuncData} {ps : List Str} (F : Fun K x qual st f fd) (h : argB ps (defArgs st) = true) (nd : ps.Nodup) : Binds K fd ps [] := by
  unfold argB at h
  simp only [Bool.and_eq_true, decide_eq_true_eq] at h
  obtain ⟨⟨⟨⟨h1, h2⟩, h3⟩, h4⟩, h5⟩ := h
  refine F.binds fun kV doc pm an cdv ct us hl => ?_
  subst h5
  exact bind_plain (List.isEmpty_iff.mp h1) (List.isEmpty_iff.mp h2) (Option.isNone_iff_eq_none.mp h3) (Option.isNone_iff_eq_none.mp h4) rfl nd hl
/-- a def stands for a def -/
def chkDef (T : Tab) (d : Def) (st : Stmt) : Bool := scB d.names d.ps (defScope st) && argB d.ps (defArgs st) && chkSts T d.names (defScope st) (fun _ => true) d.body (defBody st)
/-- what the top has left of a text's defs and names -/
structure POk (T : Tab) (K : PySem.W.Frag) (mg : Str → Option Value) : Prop where
  fns : ∀ (f : Nat) (d : Def), T.P[f]? = some d → ∃ st fa fd, Fun K d.name d.name st fa fd ∧ chkDef T d st = true ∧ mg d.name = some (.ref fa)
  bl : ∀ x ∈ builtinNames, mg x = none
  gl : ∀ p ∈ T.G, ∃ v u, mg p.1 = some u ∧ RelV v u ∧ Dv (fun _ => False) (fun _ => none) v p.2
theorem nodup_take {α : Type} {N P : List α} {n : Nat} (h : N.Nodup) (e : N.take n = P) : P.Nodup := by
  rw [← e]
  exact (List.take_sublist n N).nodup h
theorem EnvR.start {W : Wd} {H : Hp} {N : List Str} {vs : List V} {args : List D} (r : Paired (DE W H) vs args) : EnvR W H (args.map some ++ List.replicate (N.length - args.length) none) (L2.start N vs) := by
  have hl := r.length
  unfold L2.start
  refine ⟨by simp [hl], fun i d e => ?_⟩
  by_cases hi : i < args.length
  · rw [List.getElem?_append_left (by simpa using hi)] at e
    rw [List.getElem?_append_left (by simpa [hl] using hi)]
    rw [List.getElem?_map] at e ⊢
    cases q : args[i]? with
    | none => rw [q] at e; cases e
    | some d' =>
      rw [q] at e
      cases e
      have key : ∀ {vs : List V} {ds : List D} {i : Nat}, Paired (DE W H) vs ds → ds[i]? = some d → ∃ v, vs[i]? = some v ∧ DE W H v d := fun {vs ds i} r => by
        induction r generalizing i with
        | nil => intro e; simp at e
        | cons a b ih =>
          intro e
          cases i with
          | zero => simp at e; subst e; exact ⟨_, rfl, a⟩
          | succ i => simpa using ih (by simpa using e)
      obtain ⟨v, hv, dv⟩ := key r q
      exact ⟨v, by rw [hv]; rfl, dv⟩
  · rw [List.getElem?_append_right (by simpa using hi)] at e
    rw [List.getElem?_replicate] at e
    split at e <;> cases e
/-! ### a program -/
theorem cx_none (P : Program) (w : World) : ∀ o H s e s', L2.CX P w o H s E0 e s' → False := fun _ _ _ _ _ ⟨_, _, _, _, _, _, _, _, _, _, _, _, z⟩ => z
theorem wp_cutX {Xp : Exc → Store → Prop} {n : Nat} {m : M D} {st : Store} {P : D → Store → Prop} (w : MP.wp Xp (cutX n m) st P) : MP.wp (fun x s => Xp x (s.take n)) m st P := by
  unfold MP.wp cutX at w
  unfold MP.wp
  cases e : m st with
  | ok a s => rw [e] at w; exact w
  | exc x s => rw [e] at w; exact w
  | no => rw [e] at w; exact w
theorem wp_runDef {Xp : Exc → Store → Prop} {C : Ctx} {d : Def} {args : List D} {st : Store} {P : D → Store → Prop} (w : MP.wp Xp (runDef C d args) st P) : args.length = d.ps.length ∧ MP.wp (fun x s => Xp x (s.take st.length)) (do
      let o ← evSts C d.body (args.map some ++ List.replicate (d.names.length - args.length) none)
      match o with
      | .ret x => leave st.length x
      | .next _ => leave st.length (.dat .none)
      | _ => fail) st P := by
  by_cases e : args.length = d.ps.length
  · refine ⟨e, wp_cutX ?_⟩
    unfold MP.wp runDef at w
    rw [if_pos e] at w
    exact w
  · unfold MP.wp runDef at w
    rw [if_neg e] at w
    exact w.elim
theorem snd_prog {T : Tab} {xr : XR} {P : Program} {w : World} {K : PySem.W.Frag} {mg : Str → Option Value} (pk : POk T K mg) (fuel : Nat) : ∀ (k f : Nat) (d : Def), T.P[f]? = some d → ∃ fa fd, mg d.name = some (.ref fa) ∧ PySem.W.keepIn K (.ref fa) = true ∧ Binds K fd d.ps [] ∧
    (∀ vs H Q E, spOf xr ⟨callF T.P fuel k, fuel⟩ f vs H Q E → vs.length = d.ps.length) ∧ ∀ base, FnG P w K mg base (L2.CX P w) k fa fd d.ps (spOf xr ⟨callF T.P fuel k, fuel⟩ f) := by
  intro k
  induction k with
  | zero =>
    intro f d hf
    obtain ⟨st, fa, fd, F, hc, hm⟩ := pk.fns f d hf
    unfold chkDef at hc
    simp only [Bool.and_eq_true] at hc
    have S := scB_of hc.1.1
    have no : ∀ vs H Q E, ¬ spOf xr ⟨callF T.P fuel 0, fuel⟩ f vs H Q E := fun vs H Q E ⟨W, s, args, g, r, q⟩ => q
    exact ⟨fa, fd, hm, F.kp, argB_of F hc.1.2 (nodup_take S.nd S.pre), fun vs H Q E h => (no _ _ _ _ h).elim, fun base => ⟨fun vs H Q E h => (no _ _ _ _ h).elim, fun A ou s H ar us vs Q E _ _ _ _ _ h => (no _ _ _ _ h).elim⟩⟩
  | succ k ih =>
    intro f d hf
    obtain ⟨st, fa, fd, F, hc, hm⟩ := pk.fns f d hf
    unfold chkDef at hc
    simp only [Bool.and_eq_true] at hc
    have S := scB_of hc.1.1
    have run : ∀ args, callF T.P fuel (k + 1) f args = runDef ⟨callF T.P fuel k, fuel⟩ d args := fun args => by rw [callF, hf]
    have len : ∀ vs H Q E, spOf xr ⟨callF T.P fuel (k + 1), fuel⟩ f vs H Q E → vs.length = d.ps.length := fun vs H Q E ⟨W, s, args, g, r, q⟩ => by
      replace q : MP.wp _ (callF T.P fuel (k + 1) f args) s _ := q
      rw [run] at q
      rw [r.length]
      exact (wp_runDef q).1
    refine ⟨fa, fd, hm, F.kp, argB_of F hc.1.2 (nodup_take S.nd S.pre), len, fun base => fnG_of F S len fun cdv A ou s H vs Q E hr gs h => ?_⟩
    obtain ⟨W, sto, args, g, r, q⟩ := id h
    have hx : (cxOf (L2.CX P w) P w K mg base d.names d.name (defScope st) fa cdv A ou s H E).xe = fun e s' => wpAny (model (cxOf (L2.CX P w) P w K mg base d.names d.name (defScope st) fa cdv A ou s H E).prog (cxOf (L2.CX P w) P w K mg base d.names d.name (defScope st) fa cdv A ou s H E).w) (cxOf (L2.CX P w) P w K mg base d.names d.name (defScope st) fa cdv A ou s H E).A (leaving (cxOf (L2.CX P w) P w K mg base d.names d.name (defScope st) fa cdv A ou s H E).env e) (fun _ s'' => L2.CX P w ou H s E e s'') (fun e' s'' => L2.CX P w ou H s E e' s'') s' := rfl
    have x : XOk T xr (L2.CX P w) (fun _ => E) ⟨callF T.P fuel k, fuel⟩ k (cxOf (L2.CX P w) P w K mg base d.names d.name (defScope st) fa cdv A ou s H E) d.names (defScope st) (fun _ => true) :=
      { names := rfl, nd := S.nd, scope := rfl, fn := rfl, calm := rfl, room := hr, gd := gs
        px := fun σ => passAt (X := cxOf (L2.CX P w) P w K mg base d.names d.name (defScope st) fa cdv A ou s H E) (W := fun cls dd _ H' => E cls dd H') (takes_of rfl rfl rfl rfl) σ
        nx := cx_none P w
        fns := fun f' d' hf' => (ih f' d' hf').imp fun _ q => q.imp fun _ ⟨q1, q2, q3, q4, q5⟩ => ⟨q1, q2, q3, q4, q5 base⟩
        bl := pk.bl
        gl := pk.gl }
    have o : SOk (cxOf (L2.CX P w) P w K mg base d.names d.name (defScope st) fa cdv A ou s H E) := ⟨S.kind, passes_of hx⟩
    refine ⟨_, sndSts d.body x o hc.2, W, H, W, _, sto, EnvR.start r, .refl, g, ?_⟩
    replace q : MP.wp _ (callF T.P fuel (k + 1) f args) sto _ := q
    rw [run] at q
    obtain ⟨e, q2⟩ := wp_runDef q
    rw [wp_bind] at q2
    have hn : W.eta.length = sto.length := g.len
    refine wp_mono2 q2 (fun oc s1 w1 W' H' b xx gg rr => ?_) (fun ex s1 w1 W' H' xx gg => w1 (cutW W' sto.length) H' (xx.cutW hn) gg.cutW)
    cases b <;> cases oc <;> first
      | exact rr.elim
      | exact w1.elim
      | exact leave_ok w1 xx gg hn rr fun d2 st2 p W2 H2 v x2 g2 r2 => p W2 H2 v x2 g2 r2
      | exact leave_ok (v := .non) (d := .dat .none) (H := H) w1 xx gg hn (show DR H W' H' .non (.dat .none) from .non) fun d2 st2 p W2 H2 v x2 g2 r2 => p W2 H2 v x2 g2 r2
end MP
end MDef

section MEnd
set_option Elab.async false
set_option linter.all false
set_option maxRecDepth 100000
set_option autoImplicit false
set_option maxHeartbeats 8000000
/-! MEnd: a law's end. -/
namespace MP
open PySem PySem.Spec PyProof.Rows L2

/-- no exception is known -/
def xr0 : XR := fun _ _ _ _ _ => False
abbrev NoX : Exc → Store → Prop := fun _ _ => False
def noLists (K : PySem.W.Frag) : Bool := K.all fun p => match p.2.cls with
  | .type "list" => false
  | _ => true
theorem noLists_of {K : PySem.W.Frag} (h : noLists K = true) : ∀ a o, K.lookup a = some o → o.cls ≠ .type "list" := fun a o e z => by
  have key : ∀ (K : PySem.W.Frag), K.lookup a = some o → (a, o) ∈ K := fun K => by
    induction K with
    | nil => intro e; cases e
    | cons p r ih =>
      intro e
      obtain ⟨b, q⟩ := p
      rw [List.lookup_cons] at e
      split at e
      · rename_i hb
        cases e
        rw [beq_iff_eq.mp hb]
        exact List.mem_cons_self ..
      · exact List.mem_cons_of_mem _ (ih e)
  have := List.all_eq_true.mp h _ (key K e)
  simp only [z] at this
  cases this
/-- a def's statement at a place of the top -/
def stAt (P : Program) (i : Nat) : Stmt := P.main.body.getD i (.Pass ⟨0, 0, 0, 0⟩)
/-- the law's own def comes to True (a structure, so that nothing unfolds the run) -/
structure LawOk (P : List Def) (fuel k f : Nat) : Prop where
  run : ∀ ns : List Int, ns.length ≤ 63 → wp NoX (callF P fuel k f [.dat (.list (ns.map .int))]) [] fun d _ => d = .dat (.bool true)
theorem law_asks {T : Tab} {xr : XR} {fuel k f : Nat} (h : LawOk T.P fuel k f)
    (H : Hp) (a : Addr) (ob : Obj) (ns : List Int) (hn : ns.length ≤ 63) (hl : H a = some (.frz ob (.lst (ns.map V.int)))) : spOf xr ⟨callF T.P fuel k, fuel⟩ f [.ref a] H (fun v _ => v = .bl true) L2.E0 := by
  refine ⟨⟨[], fun b => b = a⟩, [], [.dat (.list (ns.map .int))], ?_, .cons (show Dv (fun b => b = a) H (.ref a) (.list (ns.map .int)) from .lst rfl (.inr ⟨ob, hl⟩) (DvAll.of_ints ns)) .nil, ?_⟩
  · refine ⟨rfl, List.nodup_nil, fun i c b e => by simp at e, fun b e => ?_, fun b e => by cases e⟩
    have e : b = a := e
    subst e
    rw [hl]
    simp
  · refine wp_mono2 (h.run ns hn) (fun d s e W' H' v x g r => ?_) fun _ _ z => z.elim
    subst e
    cases (show Dv W'.im H' v (.bool true) from r)
    rfl
/-- what the head asks, from what the top has left -/
theorem law_F {T : Tab} {xr : XR} {P : Program} {w : World} {K : PySem.W.Frag} {mg : Str → Option Value} {fuel k f : Nat} {d : Def} (pk : POk T K mg) (hf : T.P[f]? = some d) {fa : Addr} (hm : mg d.name = some (.ref fa)) :
    ∃ fd : FuncData, Binds K fd d.ps [] ∧ ∀ base : Heap, K.In base → base.Ns mainGlobals mg → FnG P w K mg base (L2.CX P w) k fa fd d.ps (spOf xr ⟨callF T.P fuel k, fuel⟩ f) := by
  obtain ⟨fa2, fd2, m1, m2, m3, m4, m5⟩ := snd_prog (xr := xr) (P := P) (w := w) pk fuel k f d hf
  rw [hm] at m1
  cases m1
  exact ⟨fd2, m3, fun base _ _ => m5 base⟩
theorem def_at {K : PySem.W.Frag} {h : Heap} {mg : Str → Option Value} {st : Stmt} {x : Str} (X : K.In h) (G : h.Ns mainGlobals mg) {f : Addr} {oc : Value} {od an : Option Addr} {sl : Array (Option Value)} {kV doc pm cdv ct : Value}
    (a : PySem.W.nsIn K mainGlobals x = some (some (.ref f))) (l : K.lookup f = some ⟨oc, od, .func (PySem.W.fnOf x x (defArgs st) (defBody st) (defScope st) .none kV doc pm an cdv ct), sl⟩) (c : PySem.W.codeIn K cdv x = true) (k : PySem.W.keepIn K (.ref f) = true) :
    ∃ fa fd, Fun K x x st fa fd ∧ mg x = some (.ref fa) := ⟨f, _, fun_mk l c k, PySem.W.mg_of X G a⟩
def DefsOk (T : Tab) (prog : Program) (K : PySem.W.Frag) (mg : Str → Option Value) : List Def → List Nat → Prop
  | [], _ => True
  | _ :: _, [] => False
  | d :: ds, i :: is => (∃ fa fd, Fun K d.name d.name (stAt prog i) fa fd ∧ mg d.name = some (.ref fa)) ∧ chkDef T d (stAt prog i) = true ∧ DefsOk T prog K mg ds is
theorem defsOk_get {T : Tab} {prog : Program} {K : PySem.W.Frag} {mg : Str → Option Value} : ∀ {ds : List Def} {is : List Nat} (f : Nat) (d : Def), DefsOk T prog K mg ds is → ds[f]? = some d → ∃ st fa fd, Fun K d.name d.name st fa fd ∧ chkDef T d st = true ∧ mg d.name = some (.ref fa)
  | [], _, _, _, _, e => by simp at e
  | _ :: _, [], _, _, h, _ => h.elim
  | d :: ds, i :: is, 0, d', h, e => by
    simp at e
    subst e
    obtain ⟨⟨fa, fd, F, m⟩, c, _⟩ := h
    exact ⟨_, fa, fd, F, c, m⟩
  | d :: ds, i :: is, f + 1, d', h, e => defsOk_get f d' h.2.2 (by simpa using e)
def NoneAll (K : PySem.W.Frag) : List Str → Prop
  | [] => True
  | x :: xs => PySem.W.nsIn K mainGlobals x = some none ∧ NoneAll K xs
theorem noneAll_get {K : PySem.W.Frag} {h : Heap} {mg : Str → Option Value} (X : K.In h) (G : h.Ns mainGlobals mg) : ∀ {xs : List Str}, NoneAll K xs → ∀ x ∈ xs, mg x = none
  | [], _, x, hx => by cases hx
  | y :: ys, hn, x, hx => by
    rcases List.mem_cons.mp hx with rfl | hx
    · exact PySem.W.mg_none_of X G hn.1
    · exact noneAll_get X G hn.2 x hx
def GlobAll (K : PySem.W.Frag) : List (Str × PyData) → Prop
  | [] => True
  | p :: ps => (∃ v u, PySem.W.nsIn K mainGlobals p.1 = some (some u) ∧ RelV v u ∧ Dv (fun _ => False) (fun _ => none) v p.2) ∧ GlobAll K ps
theorem globAll_get {K : PySem.W.Frag} {h : Heap} {mg : Str → Option Value} (X : K.In h) (G : h.Ns mainGlobals mg) : ∀ {xs : List (Str × PyData)}, GlobAll K xs → ∀ p ∈ xs, ∃ v u, mg p.1 = some u ∧ RelV v u ∧ Dv (fun _ => False) (fun _ => none) v p.2
  | [], _, x, hx => by cases hx
  | y :: ys, hn, x, hx => by
    rcases List.mem_cons.mp hx with rfl | hx
    · obtain ⟨v, u, a, b, c⟩ := hn.1
      exact ⟨v, u, PySem.W.mg_of X G a, b, c⟩
    · exact globAll_get X G hn.2 x hx
theorem glob_int {K : PySem.W.Frag} {x : Str} {i : Int} {t : Tok} (a : PySem.W.nsIn K mainGlobals x = some (some (.int i t))) : ∃ v u, PySem.W.nsIn K mainGlobals x = some (some u) ∧ RelV v u ∧ Dv (fun _ => False) (fun _ => none) v (.int i) := ⟨.int i, _, a, ⟨t, rfl⟩, .int i⟩
theorem glob_str {K : PySem.W.Frag} {x : Str} {i : Str} {t : Tok} (a : PySem.W.nsIn K mainGlobals x = some (some (.str i t))) : ∃ v u, PySem.W.nsIn K mainGlobals x = some (some u) ∧ RelV v u ∧ Dv (fun _ => False) (fun _ => none) v (.str i) := ⟨.str i, _, a, ⟨t, rfl⟩, .str i⟩
theorem pok_of {T : Tab} {prog : Program} {K : PySem.W.Frag} {h : Heap} {mg : Str → Option Value} {tops : List Nat} (X : K.In h) (G : h.Ns mainGlobals mg) (hd : DefsOk T prog K mg T.P tops) (hn : NoneAll K builtinNames) (hg : GlobAll K T.G) : POk T K mg :=
  ⟨fun f d e => defsOk_get f d hd e, noneAll_get X G hn, globAll_get X G hg⟩
end MP
end MEnd

section MW
set_option Elab.async false
set_option linter.all false
set_option maxRecDepth 100000
set_option autoImplicit false
set_option maxHeartbeats 4000000
/-! MW: how runs of MPy's texts are reckoned. -/
namespace MP
open PySem

section
variable {Xp : Exc → Store → Prop} {C : Ctx} {ρ : Env} {st : Store}
theorem wp_cons {s : St} {r : Sts} {P : Out → Store → Prop} (h : ∀ K : Out → Store → Prop, (∀ ρ' s', wp Xp (evSts C r ρ') s' P → K (.next ρ') s') → (∀ d s', P (.ret d) s' → K (.ret d) s') → wp Xp (evSt C s ρ) st K) : wp Xp (evSts C (.cons s r) ρ) st P := by
  rw [evSts, wp_bind]
  exact h _ (fun _ _ z => z) fun _ _ z => z
theorem wp_nil {P : Out → Store → Prop} (h : P (.next ρ) st) : wp Xp (evSts C .nil ρ) st P := by
  rw [evSts]
  exact h
/-- what a def's body must come to -/
def Ends (Xp : Exc → Store → Prop) (n : Nat) (Q : D → Store → Prop) : Out → Store → Prop
  | .ret x, s => wp Xp (leave n x) s Q
  | .next _, s => wp Xp (leave n (.dat .none)) s Q
  | _, _ => False
theorem wp_call {P : List Def} {w k f : Nat} {d : Def} {args : List D} {Q : D → Store → Prop} (hf : P[f]? = some d) (hl : args.length = d.ps.length)
    (h : wp (fun x s => Xp x (s.take st.length)) (evSts ⟨callF P w k, w⟩ d.body (args.map some ++ List.replicate (d.names.length - args.length) none)) st (Ends (fun x s => Xp x (s.take st.length)) st.length Q)) : wp Xp (callF P w (k + 1) f args) st Q := by
  have e : callF P w (k + 1) f args = runDef ⟨callF P w k, w⟩ d args := by rw [callF, hf]
  rw [e]
  unfold wp runDef
  rw [if_pos hl]
  unfold cutX
  have h2 : wp (fun x s => Xp x (s.take st.length)) (do
      let o ← evSts ⟨callF P w k, w⟩ d.body (args.map some ++ List.replicate (d.names.length - args.length) none)
      match o with
      | .ret x => leave st.length x
      | .next _ => leave st.length (.dat .none)
      | _ => fail) st Q := by
    rw [wp_bind]
    refine wp_mono h fun o s z => ?_
    cases o with
    | ret x => exact z
    | next _ => exact z
    | brk _ => exact z.elim
    | cnt _ => exact z.elim
  unfold wp at h2
  generalize hm : (do
      let o ← evSts ⟨callF P w k, w⟩ d.body (args.map some ++ List.replicate (d.names.length - args.length) none)
      match o with
      | .ret x => leave st.length x
      | .next _ => leave st.length (.dat .none)
      | _ => fail : M D) = m at h2 ⊢
  cases e2 : m st with
  | ok a s => rw [e2] at h2; exact h2
  | exc x s => rw [e2] at h2; exact h2
  | no => rw [e2] at h2; exact h2
/-! ### small runs -/
section
variable {α : Type} {P : D → Store → Prop}
theorem w_bind {β : Type} {m : M α} {k : α → M β} {R : β → Store → Prop} : wp Xp (m >>= k) st R ↔ wp Xp m st fun a s => wp Xp (k a) s R := wp_bind
theorem w_pure {a : α} {R : α → Store → Prop} : wp Xp (pure a) st R ↔ R a st := Iff.rfl
theorem w_ofO {o : Option α} {R : α → Store → Prop} : wp Xp (ofO o) st R ↔ ∃ a, o = some a ∧ R a st := wp_ofO
theorem w_guard {b : Bool} {R : Unit → Store → Prop} : wp Xp (guardB b) st R ↔ b = true ∧ R () st := wp_guard
theorem w_look {d : PyData} {R : PyData → Store → Prop} : wp Xp (look (.dat d)) st R ↔ R d st := Iff.rfl
theorem w_lookN {d : List PyData} {R : PyData → Store → Prop} : wp Xp (look (.newL d)) st R ↔ R (.list d) st := Iff.rfl
theorem w_lookR {i : Nat} {R : PyData → Store → Prop} : wp Xp (look (.ref i)) st R ↔ ∃ xs, st[i]? = some (.lst xs) ∧ R (.list xs) st := wp_lookR
theorem w_settle {d : PyData} {R : PyData → Store → Prop} : wp Xp (settle (.dat d)) st R ↔ R d st := Iff.rfl
theorem w_settleN {d : List PyData} {R : PyData → Store → Prop} : wp Xp (settle (.newL d)) st R ↔ R (.list d) st := Iff.rfl
theorem w_settleD {t : Bool} {d : List (PyData × PyData)} {R : PyData → Store → Prop} : wp Xp (settle (.newD t d)) st R ↔ R (.dict d) st := Iff.rfl
theorem w_settleR {i : Nat} {R : PyData → Store → Prop} : wp Xp (settle (.ref i)) st R ↔ ∃ xs, st[i]? = some (.lst xs) ∧ R (.list xs) (st.set i .dead) := wp_settleR
theorem w_asInt {d : D} {R : Int → Store → Prop} : wp Xp (asInt d) st R ↔ wp Xp (look d) st fun u s => ∃ i, u = .int i ∧ R i s := by
  unfold asInt
  rw [wp_bind]
  constructor <;> intro h <;> refine wp_mono h fun u s z => ?_
  · obtain ⟨i, e, z⟩ := wp_ofO.mp z
    cases u <;> first | (cases e; done) | skip
    cases e
    exact ⟨_, rfl, z⟩
  · obtain ⟨i, rfl, z⟩ := z
    exact z
theorem w_asBool {d : D} {R : Bool → Store → Prop} : wp Xp (asBool d) st R ↔ wp Xp (look d) st fun u s => ∃ i, u = .bool i ∧ R i s := by
  unfold asBool
  rw [wp_bind]
  constructor <;> intro h <;> refine wp_mono h fun u s z => ?_
  · obtain ⟨i, e, z⟩ := wp_ofO.mp z
    cases u <;> first | (cases e; done) | skip
    cases e
    exact ⟨_, rfl, z⟩
  · obtain ⟨i, rfl, z⟩ := z
    exact z
theorem w_refOf {i : Nat} {R : Nat → Store → Prop} : wp Xp (refOf (.ref i)) st R ↔ R i st := Iff.rfl
theorem w_cellAt {i : Nat} {R : List PyData → Store → Prop} : wp Xp (cellAt i) st R ↔ ∃ xs, st[i]? = some (.lst xs) ∧ R xs st := wp_cellAt
theorem w_putCell {i : Nat} {c : Cell} {R : Unit → Store → Prop} : wp Xp (putCell i c) st R ↔ R () (st.set i c) := Iff.rfl
theorem w_newCell {xs : List PyData} : wp Xp (newCell (.newL xs)) st P ↔ P (.ref st.length) (st ++ [.lst xs]) := Iff.rfl
theorem w_newCellD {t : Bool} {xs : List (PyData × PyData)} : wp Xp (newCell (.newD t xs)) st P ↔ P (.ref st.length) (st ++ [.dct t xs]) := Iff.rfl
theorem w_looks0 {R : List PyData → Store → Prop} : wp Xp (looks []) st R ↔ R [] st := Iff.rfl
theorem w_looks {d : D} {ds : List D} {R : List PyData → Store → Prop} : wp Xp (looks (d :: ds)) st R ↔ wp Xp (look d) st fun u s => wp Xp (looks ds) s fun us s => R (u :: us) s := by
  rw [looks]
  simp only [wp_bind, wp_pure]
theorem w_noX {m : M α} {R : α → Store → Prop} : wp Xp (noX m) st R ↔ wp NoX m st R := wp_noX

theorem keep_dat {d : PyData} : keep (.dat d) = .dat d := rfl
theorem keep_ref {i : Nat} : keep (.ref i) = .ref i := rfl
theorem keep_newL {d : List PyData} : keep (.newL d) = .dat (.list d) := rfl
theorem keep_newD {t : Bool} {d : List (PyData × PyData)} : keep (.newD t d) = .dat (.dict d) := rfl
/-! ### expressions -/
theorem w_var {i : Nat} : wp Xp (evE C (.var i) ρ) st P ↔ ∃ d, ρ[i]? = some (some d) ∧ P d st := by
  rw [evE]
  rw [wp_ofO]
  constructor
  · rintro ⟨d, e, h⟩
    refine ⟨d, ?_, h⟩
    split at e
    · cases e; assumption
    · cases e
  · rintro ⟨d, e, h⟩
    exact ⟨d, by rw [e], h⟩
theorem w_con {d : PyData} : wp Xp (evE C (.con d) ρ) st P ↔ P (.dat d) st := by rw [evE]; exact Iff.rfl
theorem w_glob {x : Str} {d : PyData} : wp Xp (evE C (.glob x d) ρ) st P ↔ P (.dat d) st := by rw [evE]; exact Iff.rfl
theorem w_bin {op : Bop} {a b : Ex} : wp Xp (evE C (.bin op a b) ρ) st P ↔ wp Xp (evE C a ρ) st fun x s => wp Xp (evE C b ρ) s fun y s => wp Xp (look x) s fun u s => wp Xp (look y) s fun v s => ∃ d, bopV op u v = some d ∧ P d s := by
  rw [evE]
  simp only [wp_bind, wp_ofO]
theorem w_neg {a : Ex} : wp Xp (evE C (.neg a) ρ) st P ↔ wp Xp (evE C a ρ) st fun x s => wp Xp (asInt x) s fun i s => P (.dat (.int (-i))) s := by
  rw [evE]
  simp only [wp_bind, wp_pure]
theorem w_cmp {op : Cop} {a b : Ex} : wp Xp (evE C (.cmp op a b) ρ) st P ↔ wp Xp (evE C a ρ) st fun x s => wp Xp (evE C b ρ) s fun y s => wp Xp (look x) s fun u s => wp Xp (look y) s fun v s => ∃ d, copV op u v = some d ∧ P (.dat (.bool d)) s := by
  rw [evE]
  simp only [wp_bind, wp_ofO, Option.map_eq_some_iff]
  constructor <;> intro h <;> refine wp_mono h fun x s h => wp_mono h fun y s h => wp_mono h fun u s h => wp_mono h fun v s h => ?_
  · obtain ⟨_, ⟨d, e, rfl⟩, h⟩ := h
    exact ⟨d, e, h⟩
  · obtain ⟨d, e, h⟩ := h
    exact ⟨_, ⟨d, e, rfl⟩, h⟩
theorem w_chain {o1 o2 : Cop} {a b c : Ex} : wp Xp (evE C (.chain o1 o2 a b c) ρ) st P ↔ wp Xp (evE C a ρ) st fun x s => wp Xp (evE C b ρ) s fun y s => wp Xp (look x) s fun u s => wp Xp (look y) s fun v s => ∃ r, copV o1 u v = some r ∧
    ((r = true → wp Xp (evE C c ρ) s fun z s => wp Xp (look y) s fun v' s => wp Xp (look z) s fun w s => ∃ r', copV o2 v' w = some r' ∧ P (.dat (.bool r')) s) ∧ (r = false → P (.dat (.bool false)) s)) := by
  rw [evE]
  simp only [wp_bind, wp_ofO]
  constructor <;> intro h <;> refine wp_mono h fun x s h => wp_mono h fun y s h => wp_mono h fun u s h => wp_mono h fun v s h => ?_
  · obtain ⟨r, e, h⟩ := h
    refine ⟨r, e, fun z => ?_, fun z => ?_⟩
    · subst z
      simp only [wp_bind, wp_ofO] at h
      exact h
    · subst z; exact h
  · obtain ⟨r, e, h1, h2⟩ := h
    refine ⟨r, e, ?_⟩
    cases r with
    | true =>
      simp only [wp_bind, wp_ofO]
      exact h1 rfl
    | false => exact h2 rfl
theorem w_isin {ng : Bool} {a b : Ex} : wp Xp (evE C (.isin ng a b) ρ) st P ↔ wp Xp (evE C a ρ) st fun x s => wp Xp (evE C b ρ) s fun y s => wp Xp (look x) s fun u s => wp Xp (look y) s fun v s => ∃ d, inV u v = some d ∧ P (.dat (.bool (if ng then !d else d))) s := by
  rw [evE]
  simp only [wp_bind, wp_ofO, Option.map_eq_some_iff]
  constructor <;> intro h <;> refine wp_mono h fun x s h => wp_mono h fun y s h => wp_mono h fun u s h => wp_mono h fun v s h => ?_
  · obtain ⟨_, ⟨_, ⟨d, e, rfl⟩, rfl⟩, h⟩ := h
    exact ⟨d, e, h⟩
  · obtain ⟨d, e, h⟩ := h
    exact ⟨_, ⟨_, ⟨d, e, rfl⟩, rfl⟩, h⟩
theorem w_and {a b : Ex} : wp Xp (evE C (.and a b) ρ) st P ↔ wp Xp (evE C a ρ) st fun x s => wp Xp (asBool x) s fun k s => (k = true → wp Xp (evE C b ρ) s P) ∧ (k = false → P (.dat (.bool false)) s) := by
  rw [evE]
  simp only [wp_bind]
  constructor <;> intro h <;> refine wp_mono h fun x s h => wp_mono h fun k s h => ?_
  · cases k with
    | true => exact ⟨fun _ => h, fun z => nomatch z⟩
    | false => exact ⟨fun z => (nomatch z), fun _ => h⟩
  · cases k with
    | true => exact h.1 rfl
    | false => exact h.2 rfl
theorem w_or {a b : Ex} : wp Xp (evE C (.or a b) ρ) st P ↔ wp Xp (evE C a ρ) st fun x s => wp Xp (asBool x) s fun k s => (k = true → P (.dat (.bool true)) s) ∧ (k = false → wp Xp (evE C b ρ) s P) := by
  rw [evE]
  simp only [wp_bind]
  constructor <;> intro h <;> refine wp_mono h fun x s h => wp_mono h fun k s h => ?_
  · cases k with
    | true => exact ⟨fun _ => h, fun z => nomatch z⟩
    | false => exact ⟨fun z => (nomatch z), fun _ => h⟩
  · cases k with
    | true => exact h.1 rfl
    | false => exact h.2 rfl
theorem w_not {a : Ex} : wp Xp (evE C (.not a) ρ) st P ↔ wp Xp (evE C a ρ) st fun x s => wp Xp (asBool x) s fun k s => P (.dat (.bool (!k))) s := by
  rw [evE]
  simp only [wp_bind, wp_pure]
theorem w_ifx {c a b : Ex} : wp Xp (evE C (.ife c a b) ρ) st P ↔ wp Xp (evE C c ρ) st fun x s => wp Xp (asBool x) s fun k s => (k = true → wp Xp (evE C a ρ) s P) ∧ (k = false → wp Xp (evE C b ρ) s P) := by
  rw [evE]
  simp only [wp_bind]
  constructor <;> intro h <;> refine wp_mono h fun x s h => wp_mono h fun k s h => ?_
  · cases k with
    | true => exact ⟨fun _ => h, fun z => nomatch z⟩
    | false => exact ⟨fun z => (nomatch z), fun _ => h⟩
  · cases k with
    | true => exact h.1 rfl
    | false => exact h.2 rfl
theorem w_tup {es : Exs} : wp Xp (evE C (.tup es) ρ) st P ↔ wp Xp (evEs C es ρ) st fun xs s => xs.length ≤ LIM ∧ P (.dat (.tuple xs)) s := by
  rw [evE]
  simp only [wp_bind, wp_guard, wp_pure, decide_eq_true_eq]
theorem w_lst {es : Exs} : wp Xp (evE C (.lst es) ρ) st P ↔ wp Xp (evEs C es ρ) st fun xs s => xs.length ≤ LIM ∧ P (.newL xs) s := by
  rw [evE]
  simp only [wp_bind, wp_guard, wp_pure, decide_eq_true_eq]
theorem w_emp {t : Bool} : wp Xp (evE C (.emp t) ρ) st P ↔ P (.newD t []) st := by rw [evE]; exact Iff.rfl
theorem w_idx {a b : Ex} : wp Xp (evE C (.idx a b) ρ) st P ↔ wp Xp (evE C a ρ) st fun x s => wp Xp (evE C b ρ) s fun y s => wp Xp (look x) s fun u s => wp Xp (look y) s fun v s => ∃ d, idxV u v = some d ∧ P (.dat d) s := by
  rw [evE]
  simp only [wp_bind, wp_ofO, Option.map_eq_some_iff]
  constructor <;> intro h <;> refine wp_mono h fun x s h => wp_mono h fun y s h => wp_mono h fun u s h => wp_mono h fun v s h => ?_
  · obtain ⟨_, ⟨d, e, rfl⟩, h⟩ := h
    exact ⟨d, e, h⟩
  · obtain ⟨d, e, h⟩ := h
    exact ⟨_, ⟨d, e, rfl⟩, h⟩
theorem w_slc {a : Ex} {lo hi : Opt} : wp Xp (evE C (.slc a lo hi) ρ) st P ↔ wp Xp (evE C a ρ) st fun x s => wp Xp (evO C lo ρ) s fun l s => wp Xp (evO C hi ρ) s fun h s => wp Xp (look x) s fun u s => ∃ d, cutV u l h = some d ∧ P d s := by
  rw [evE]
  simp only [wp_bind, wp_ofO]
theorem w_bi {f : Bi} {es : Exs} : wp Xp (evE C (.bi f es) ρ) st P ↔ wp Xp (evAs C es ρ) st fun xs s => wp Xp (looks xs) s fun us s => ∃ d, biV f us = some d ∧ P d s := by
  rw [evE]
  simp only [wp_bind, wp_ofO]
theorem w_lrng {a : Ex} : wp Xp (evE C (.lrng a) ρ) st P ↔ wp Xp (evE C a ρ) st fun x s => wp Xp (asInt x) s fun i s => small i = true ∧ P (.newL (rngL 0 i.toNat)) s := by
  rw [evE]
  simp only [wp_bind, wp_guard, wp_pure]
theorem w_isi {a : Ex} {ts : List Ty} {par : Bool} : wp Xp (evE C (.isi a ts par) ρ) st P ↔ wp Xp (evE C a ρ) st fun x s => wp Xp (look x) s fun u s => P (.dat (.bool (ts.any fun t => isiV t u))) s := by
  rw [evE]
  simp only [wp_bind, wp_pure]
theorem w_call {f : Nat} {es : Exs} : wp Xp (evE C (.call f es) ρ) st P ↔ wp Xp (evAs C es ρ) st fun xs s => wp Xp (C.call f xs) s P := by
  rw [evE]
  simp only [wp_bind]
theorem w_comp {elt : Ex} {tg : Tg} {it : It} {ifs : Opt} {own : List (Str × Nat)} : wp Xp (evE C (.comp elt tg it ifs own) ρ) st P ↔ wp Xp (evIt C it ρ) st fun xs s => wp Xp (lcGo (fun x => noX do
      let ρ' ← evTg C tg (.dat x) (wipeE ρ (own.map (·.2)))
      let k ← evIf C ifs ρ'
      match k with
      | true => do
        let y ← evE C elt ρ'
        let z ← settle y
        pure (some z)
      | false => pure none) xs []) s fun ys s => P (.newL ys) s := by
  rw [evE]
  simp only [wp_bind, wp_pure] <;> exact Iff.rfl
theorem w_cell {e : Ex} : wp Xp (evE C (.cell e) ρ) st P ↔ wp Xp (evE C e ρ) st fun x s => wp Xp (newCell x) s P := by
  rw [evE]
  simp only [wp_bind]
theorem w_app {a x : Ex} : wp Xp (evE C (.app a x) ρ) st P ↔ wp Xp (evE C a ρ) st fun p s => wp Xp (refOf p) s fun i s => wp Xp (cellAt i) s fun _ s => wp Xp (evE C x ρ) s fun y s => wp Xp (settle y) s fun z s => wp Xp (cellAt i) s fun xs s => xs.length < LIM ∧ P (.dat .none) (s.set i (.lst (xs ++ [z]))) := by
  rw [evE]
  simp only [wp_bind, wp_guard, wp_pure, wp_putCell, decide_eq_true_eq]
theorem w_pop {a : Ex} : wp Xp (evE C (.pop a) ρ) st P ↔ wp Xp (evE C a ρ) st fun p s => wp Xp (refOf p) s fun i s => wp Xp (cellAt i) s fun xs s => ∃ y, xs.getLast? = some y ∧ P (.dat y) (s.set i (.lst xs.dropLast)) := by
  rw [evE]
  simp only [wp_bind, wp_ofO, wp_pure, wp_putCell]
theorem w_popAt {a x : Ex} : wp Xp (evE C (.popAt a x) ρ) st P ↔ wp Xp (evE C a ρ) st fun p s => wp Xp (refOf p) s fun i s => wp Xp (cellAt i) s fun _ s => wp Xp (evE C x ρ) s fun y s => wp Xp (asInt y) s fun k s => wp Xp (cellAt i) s fun xs s => xs.length ≤ LIM ∧ ∃ j, ixPl xs.length k = some j ∧ ∃ z, xs[j]? = some z ∧ P (.dat z) (s.set i (.lst (xs.eraseIdx j))) := by
  rw [evE]
  simp only [wp_bind, wp_guard, wp_ofO, wp_pure, wp_putCell, decide_eq_true_eq]
theorem w_esN {R : List PyData → Store → Prop} : wp Xp (evEs C .nil ρ) st R ↔ R [] st := by rw [evEs]; exact Iff.rfl
theorem w_es {e : Ex} {es : Exs} {R : List PyData → Store → Prop} : wp Xp (evEs C (.cons e es) ρ) st R ↔ wp Xp (evE C e ρ) st fun x s => wp Xp (settle x) s fun u s => wp Xp (evEs C es ρ) s fun us s => R (u :: us) s := by
  rw [evEs]
  simp only [wp_bind, wp_pure]
theorem w_asN {R : List D → Store → Prop} : wp Xp (evAs C .nil ρ) st R ↔ R [] st := by rw [evAs]; exact Iff.rfl
theorem w_as {e : Ex} {es : Exs} {R : List D → Store → Prop} : wp Xp (evAs C (.cons e es) ρ) st R ↔ wp Xp (evE C e ρ) st fun x s => wp Xp (evAs C es ρ) s fun us s => R (keep x :: us) s := by
  rw [evAs]
  simp only [wp_bind, wp_pure]
theorem w_oN {R : Option Int → Store → Prop} : wp Xp (evO C .none ρ) st R ↔ R none st := by rw [evO]; exact Iff.rfl
theorem w_o {e : Ex} {R : Option Int → Store → Prop} : wp Xp (evO C (.some e) ρ) st R ↔ wp Xp (evE C e ρ) st fun x s => wp Xp (asInt x) s fun i s => R (some i) s := by
  rw [evO]
  simp only [wp_bind, wp_pure]
theorem w_ifN {R : Bool → Store → Prop} : wp Xp (evIf C .none ρ) st R ↔ R true st := by rw [evIf]; exact Iff.rfl
theorem w_if {e : Ex} {R : Bool → Store → Prop} : wp Xp (evIf C (.some e) ρ) st R ↔ wp Xp (evE C e ρ) st fun x s => wp Xp (asBool x) s R := by
  rw [evIf, wp_bind]
theorem w_tgN {i : Nat} {d : D} {R : Env → Store → Prop} : wp Xp (evTg C (.name i) d ρ) st R ↔ R (ρ.set i (some (keep d))) st := by rw [evTg]; exact Iff.rfl
theorem w_tgT {ts : Tgs} {d : D} {R : Env → Store → Prop} : wp Xp (evTg C (.tup ts) d ρ) st R ↔ wp Xp (look d) st fun u s => ∃ xs, u = .tuple xs ∧ xs.length = tgsLen ts ∧ wp Xp (evTgs C ts xs ρ) s R := by
  rw [evTg, wp_bind]
  constructor <;> intro h <;> refine wp_mono h fun u s h => ?_
  · cases u <;> first | exact h.elim | skip
    rename_i xs
    rw [wp_bind] at h
    obtain ⟨a, b⟩ := wp_guard.mp h
    exact ⟨xs, rfl, of_decide_eq_true a, b⟩
  · obtain ⟨xs, rfl, a, b⟩ := h
    show wp Xp (guardB _ >>= _) s R
    rw [wp_bind]
    exact wp_guard.mpr ⟨decide_eq_true a, b⟩
theorem w_tgS {a b : Ex} {d : D} {R : Env → Store → Prop} : wp Xp (evTg C (.sub a b) d ρ) st R ↔ wp Xp (evE C a ρ) st fun p s => wp Xp (evE C b ρ) s fun y s => wp Xp (asInt y) s fun k s => wp Xp (settle d) s fun z s => wp Xp (refOf p) s fun i s => wp Xp (cellAt i) s fun xs s => ∃ j, ixPl xs.length k = some j ∧ R ρ (s.set i (.lst (xs.set j z))) := by
  rw [evTg]
  simp only [wp_bind, wp_ofO, wp_pure, wp_putCell]
theorem w_tgsN {R : Env → Store → Prop} : wp Xp (evTgs C .nil [] ρ) st R ↔ R ρ st := by rw [evTgs]; exact Iff.rfl
theorem w_tgs {t : Tg} {ts : Tgs} {x : PyData} {xs : List PyData} {R : Env → Store → Prop} : wp Xp (evTgs C (.cons t ts) (x :: xs) ρ) st R ↔ wp Xp (evTg C t (.dat x) ρ) st fun ρ' s => wp Xp (evTgs C ts xs ρ') s R := by
  rw [evTgs, wp_bind]
/-- what is walked, of a value -/
def seqOf : D → Option (List PyData)
  | .dat (.list xs) => some xs
  | .dat (.tuple xs) => some xs
  | .newL xs => some xs
  | _ => none
theorem w_itV {e : Ex} {R : List PyData → Store → Prop} : wp Xp (evIt C (.val e) ρ) st R ↔ wp Xp (evE C e ρ) st fun x s => ∃ xs, seqOf x = some xs ∧ R xs s := by
  rw [evIt, wp_bind]
  constructor <;> intro h <;> refine wp_mono h fun x s h => ?_
  · cases x with
    | dat d => cases d <;> first | exact h.elim | exact ⟨_, rfl, h⟩
    | newL xs => exact ⟨_, rfl, h⟩
    | newD t k => exact h.elim
    | ref i => exact h.elim
  · obtain ⟨xs, e, h⟩ := h
    cases x with
    | dat d => cases d <;> first | (cases e; done) | (cases e; exact h)
    | newL xs => cases e; exact h
    | newD t k => cases e
    | ref i => cases e
theorem w_it1 {a : Ex} {R : List PyData → Store → Prop} : wp Xp (evIt C (.rng1 a) ρ) st R ↔ wp Xp (evE C a ρ) st fun x s => wp Xp (asInt x) s fun i s => small i = true ∧ R (rngL 0 i.toNat) s := by
  rw [evIt]
  simp only [wp_bind, wp_guard, wp_pure]
theorem w_it2 {a b : Ex} {R : List PyData → Store → Prop} : wp Xp (evIt C (.rng2 a b) ρ) st R ↔ wp Xp (evE C a ρ) st fun x s => wp Xp (evE C b ρ) s fun y s => wp Xp (asInt x) s fun i s => wp Xp (asInt y) s fun j s => (small i && small j) = true ∧ R (rngL i (j - i).toNat) s := by
  rw [evIt]
  simp only [wp_bind, wp_guard, wp_pure]
theorem w_itE {e : Ex} {R : List PyData → Store → Prop} : wp Xp (evIt C (.enum e) ρ) st R ↔ wp Xp (evE C e ρ) st fun x s => ∃ xs, keep x = .dat (.list xs) ∧ R (enumL xs 0) s := by
  rw [evIt, wp_bind]
  constructor <;> intro h <;> refine wp_mono h fun x s h => ?_
  · cases x with
    | dat d => cases d <;> first | exact h.elim | exact ⟨_, rfl, h⟩
    | newL xs => exact ⟨_, rfl, h⟩
    | newD t k => exact h.elim
    | ref i => exact h.elim
  · obtain ⟨xs, e, h⟩ := h
    rw [e]
    exact h
theorem w_itZ {es : Exs} {R : List PyData → Store → Prop} : wp Xp (evIt C (.zip es) ρ) st R ↔ wp Xp (evAs C es ρ) st fun ds s => ∃ x y, (ds = [.dat (.list x), .dat (.list y)] ∨ ds = [.dat (.tuple x), .dat (.tuple y)]) ∧ R (zipL x y) s := by
  rw [evIt, wp_bind]
  constructor <;> intro h <;> refine wp_mono h fun ds s h => ?_
  · split at h
    · exact ⟨_, _, .inl rfl, h⟩
    · exact ⟨_, _, .inr rfl, h⟩
    · exact h.elim
  · obtain ⟨x, y, rfl | rfl, h⟩ := h <;> exact h

/-! ### statements -/
variable {K : Out → Store → Prop}
theorem w_asg {t : Tg} {e : Ex} : wp Xp (evSt C (.asg t e) ρ) st K ↔ wp Xp (evE C e ρ) st fun x s => wp NoX (evTg C t x ρ) s fun ρ' s => K (.next ρ') s := by
  rw [evSt]
  simp only [wp_bind, wp_noX, wp_pure]
theorem w_par {i j : Nat} {es : Exs} : wp Xp (evSt C (.par i j es) ρ) st K ↔ wp Xp (evAs C es ρ) st fun ds s => ∃ x y, ds = [x, y] ∧ K (.next ((ρ.set i (some x)).set j (some y))) s := by
  rw [evSt, wp_bind]
  constructor <;> intro h <;> refine wp_mono h fun ds s h => ?_
  · split at h
    · exact ⟨_, _, rfl, h⟩
    · exact h.elim
  · obtain ⟨x, y, rfl, h⟩ := h
    exact h
theorem w_expr {e : Ex} : wp Xp (evSt C (.expr e) ρ) st K ↔ wp Xp (evE C e ρ) st fun _ s => K (.next ρ) s := by
  rw [evSt]
  simp only [wp_bind, wp_pure]
theorem w_ret {e : Ex} : wp Xp (evSt C (.ret e) ρ) st K ↔ wp Xp (evE C e ρ) st fun x s => K (.ret x) s := by
  rw [evSt]
  simp only [wp_bind, wp_pure]
theorem w_sife {c : Ex} {a b : Sts} : wp Xp (evSt C (.ife c a b) ρ) st K ↔ wp Xp (evE C c ρ) st fun x s => wp Xp (asBool x) s fun k s => (k = true → wp Xp (evSts C a ρ) s K) ∧ (k = false → wp Xp (evSts C b ρ) s K) := by
  rw [evSt]
  simp only [wp_bind]
  constructor <;> intro h <;> refine wp_mono h fun x s h => wp_mono h fun k s h => ?_
  · cases k with
    | true => exact ⟨fun _ => h, fun z => nomatch z⟩
    | false => exact ⟨fun z => (nomatch z), fun _ => h⟩
  · cases k with
    | true => exact h.1 rfl
    | false => exact h.2 rfl
theorem w_stsN : wp Xp (evSts C .nil ρ) st K ↔ K (.next ρ) st := by rw [evSts]; exact Iff.rfl
/-- a block of one statement -/
theorem w_sts1 {s : St} : wp Xp (evSts C (.cons s .nil) ρ) st K ↔ wp Xp (evSt C s ρ) st K := by
  rw [evSts, wp_bind]
  constructor <;> intro h <;> refine wp_mono h fun o s h => ?_
  · cases o <;> first | exact h | (rw [evSts] at h; exact h)
  · cases o <;> first | exact h | (rw [evSts]; exact h)
theorem w_brk : wp Xp (evSt C .brk ρ) st K ↔ K (.brk ρ) st := by rw [evSt]; exact Iff.rfl
theorem w_cnt : wp Xp (evSt C .cnt ρ) st K ↔ K (.cnt ρ) st := by rw [evSt]; exact Iff.rfl
theorem w_pass : wp Xp (evSt C .pass ρ) st K ↔ K (.next ρ) st := by rw [evSt]; exact Iff.rfl
theorem w_leave {n : Nat} {d : PyData} : wp Xp (leave n (.dat d)) st P ↔ P (.dat d) (st.take n) := Iff.rfl
theorem w_leaveN {n : Nat} {d : List PyData} : wp Xp (leave n (.newL d)) st P ↔ P (.newL d) (st.take n) := Iff.rfl
theorem w_leaveD {n : Nat} {t : Bool} {d : List (PyData × PyData)} : wp Xp (leave n (.newD t d)) st P ↔ P (.newD t d) (st.take n) := Iff.rfl
theorem ends_ret {n : Nat} {x : D} : Ends Xp n P (.ret x) st ↔ wp Xp (leave n x) st P := Iff.rfl

/-! ### loops -/
/-- a comprehension whose turns change nothing -/
theorem lc_pure {turn : PyData → M (Option PyData)} {f : PyData → Option PyData} {R : List PyData → Store → Prop} : ∀ {xs acc : List PyData}, (∀ x ∈ xs, ∀ P : Option PyData → Store → Prop, P (f x) st → wp Xp (turn x) st P) → acc.length + xs.length ≤ LIM → R (acc ++ xs.filterMap f) st → wp Xp (lcGo turn xs acc) st R
  | [], acc, _, _, h => by simpa [lcGo, w_pure] using h
  | x :: xs, acc, ht, hl, h => by
    rw [lcGo, wp_bind]
    refine ht x (List.mem_cons_self ..) _ ?_
    rw [List.length_cons] at hl
    rw [List.filterMap_cons] at h
    cases e : f x with
    | none =>
      rw [e] at h
      exact lc_pure (fun y hy => ht y (List.mem_cons_of_mem _ hy)) (by omega) h
    | some y =>
      rw [e] at h
      show wp Xp (guardB _ >>= _) st R
      rw [wp_bind]
      refine wp_guard.mpr ⟨decide_eq_true (by omega), ?_⟩
      exact lc_pure (fun y hy => ht y (List.mem_cons_of_mem _ hy)) (by rw [List.length_append, List.length_singleton]; omega) (by rw [List.append_assoc]; exact h)
/-- a comprehension by an invariant of what is made so far -/
theorem lc_inv {turn : PyData → M (Option PyData)} {R : List PyData → Store → Prop} {xs : List PyData} (I : Nat → List PyData → Store → Prop) (h0 : I 0 [] st) (hl : xs.length ≤ LIM) (hi : ∀ n acc s, I n acc s → acc.length ≤ n)
    (ht : ∀ n x acc s, xs[n]? = some x → I n acc s → wp Xp (turn x) s fun o s' => match o with
      | some y => I (n + 1) (acc ++ [y]) s'
      | none => I (n + 1) acc s') (hd : ∀ acc s, I xs.length acc s → R acc s) : wp Xp (lcGo turn xs []) st R := by
  have key : ∀ (r : List PyData) (n : Nat) (acc : List PyData) (s : Store), n + r.length = xs.length → (∀ i x, r[i]? = some x → xs[n + i]? = some x) → I n acc s → wp Xp (lcGo turn r acc) s R := by
    intro r
    induction r with
    | nil =>
      intro n acc s hn _ h
      rw [List.length_nil, Nat.add_zero] at hn
      subst hn
      exact hd _ _ h
    | cons x r ih =>
      intro n acc s hn hx h
      rw [List.length_cons] at hn
      rw [lcGo, wp_bind]
      refine wp_mono (ht n x acc s (by simpa using hx 0 x rfl) h) fun o s' h' => ?_
      have hx' : ∀ i y, r[i]? = some y → xs[n + 1 + i]? = some y := fun i y e => by
        have := hx (i + 1) y (by simpa using e)
        rwa [show n + (i + 1) = n + 1 + i by omega] at this
      cases o with
      | none => exact ih (n + 1) acc s' (by omega) hx' h'
      | some y =>
        show wp Xp (guardB _ >>= _) s' R
        rw [wp_bind]
        have := hi _ _ _ h
        exact wp_guard.mpr ⟨decide_eq_true (by omega), ih (n + 1) _ s' (by omega) hx' h'⟩
  exact key xs 0 [] st (by simp) (fun i x e => by simpa using e) h0
/-- a for by an invariant -/
theorem for_inv {t : Tg} {it : It} {body : Sts} (hI : wp Xp (evIt C it ρ) st fun xs s => ∃ I : Nat → Env → Store → Prop, I 0 ρ s ∧
    (∀ n x ρ1 s1, xs[n]? = some x → I n ρ1 s1 → ∀ K2 : Out → Store → Prop, (∀ ρ3 s3, I (n + 1) ρ3 s3 → K2 (.next ρ3) s3) → (∀ ρ3 s3, I (n + 1) ρ3 s3 → K2 (.cnt ρ3) s3) → (∀ ρ3 s3, K (.next ρ3) s3 → K2 (.brk ρ3) s3) → (∀ d s3, K (.ret d) s3 → K2 (.ret d) s3) →
      wp NoX (evTg C t (.dat x) ρ1) s1 fun ρ2 s2 => wp Xp (evSts C body ρ2) s2 K2) ∧ ∀ ρ1 s1, I xs.length ρ1 s1 → K (.next ρ1) s1) : wp Xp (evSt C (.for_ t it body) ρ) st K := by
  rw [evSt, wp_bind]
  refine wp_mono hI fun xs s ⟨I, h0, ht, hd⟩ => ?_
  have key : ∀ (r : List PyData) (n : Nat) (ρ1 : Env) (s1 : Store), n + r.length = xs.length → (∀ i x, r[i]? = some x → xs[n + i]? = some x) → I n ρ1 s1 → wp Xp (forGo (fun x ρ' => do
      let ρ2 ← noX (evTg C t (.dat x) ρ')
      evSts C body ρ2) r ρ1) s1 K := by
    intro r
    induction r with
    | nil =>
      intro n ρ1 s1 hn _ h
      rw [List.length_nil, Nat.add_zero] at hn
      subst hn
      exact hd _ _ h
    | cons x r ih =>
      intro n ρ1 s1 hn hx h
      rw [List.length_cons] at hn
      rw [forGo, wp_bind, wp_bind, wp_noX]
      have hx' : ∀ i y, r[i]? = some y → xs[n + 1 + i]? = some y := fun i y e => by
        have := hx (i + 1) y (by simpa using e)
        rwa [show n + (i + 1) = n + 1 + i by omega] at this
      refine wp_mono (ht n x ρ1 s1 (by simpa using hx 0 x rfl) h (fun o s3 => match o with
        | .next ρ3 => I (n + 1) ρ3 s3
        | .cnt ρ3 => I (n + 1) ρ3 s3
        | .brk ρ3 => K (.next ρ3) s3
        | .ret d => K (.ret d) s3) (fun _ _ z => z) (fun _ _ z => z) (fun _ _ z => z) (fun _ _ z => z)) fun ρ2 s2 h2 => wp_mono h2 fun o s3 h3 => ?_
      cases o with
      | next ρ3 => exact ih (n + 1) ρ3 s3 (by omega) hx' h3
      | cnt ρ3 => exact ih (n + 1) ρ3 s3 (by omega) hx' h3
      | brk ρ3 => exact h3
      | ret d => exact h3
  exact key xs 0 ρ s (by simp) (fun i x e => by simpa using e) h0
/-- a while by an invariant and what falls -/
theorem while_inv {c : Ex} {body : Sts} (I : Nat → Env → Store → Prop) {m : Nat} (hm : m < C.fuel) (h0 : I m ρ st) (ht : ∀ n ρ1 s1, I n ρ1 s1 → ∀ K2 : Out → Store → Prop, (∀ n' ρ3 s3, n' < n → I n' ρ3 s3 → K2 (.next ρ3) s3) → (∀ n' ρ3 s3, n' < n → I n' ρ3 s3 → K2 (.cnt ρ3) s3) → (∀ ρ3 s3, K (.next ρ3) s3 → K2 (.brk ρ3) s3) → (∀ d s3, K (.ret d) s3 → K2 (.ret d) s3) →
      wp Xp (evE C c ρ1) s1 fun x s2 => wp Xp (asBool x) s2 fun k s3 => (k = true → wp Xp (evSts C body ρ1) s3 K2) ∧ (k = false → K (.next ρ1) s3)) : wp Xp (evSt C (.while_ c body) ρ) st K := by
  rw [evSt]
  have key : ∀ (fuel n : Nat) (ρ1 : Env) (s1 : Store), n < fuel → I n ρ1 s1 → wp Xp (whileGo (fun ρ' => do
      let x ← evE C c ρ'
      asBool x) (fun ρ' => evSts C body ρ') fuel ρ1) s1 K := by
    intro fuel
    induction fuel with
    | zero => intro n ρ1 s1 hn; omega
    | succ fuel ih =>
      intro n ρ1 s1 hn h
      rw [whileGo, wp_bind, wp_bind]
      refine wp_mono (ht n ρ1 s1 h (fun o s4 => match o with
        | .next ρ3 => ∃ n', n' < n ∧ I n' ρ3 s4
        | .cnt ρ3 => ∃ n', n' < n ∧ I n' ρ3 s4
        | .brk ρ3 => K (.next ρ3) s4
        | .ret d => K (.ret d) s4) (fun n' _ _ l z => ⟨n', l, z⟩) (fun n' _ _ l z => ⟨n', l, z⟩) (fun _ _ z => z) (fun _ _ z => z)) fun x s2 h2 => wp_mono h2 fun k s3 ⟨h3, h4⟩ => ?_
      cases k with
      | false => exact h4 rfl
      | true =>
        show wp Xp (evSts C body ρ1 >>= _) s3 K
        rw [wp_bind]
        refine wp_mono (h3 rfl) fun o s4 h5 => ?_
        cases o with
        | next ρ3 =>
          obtain ⟨n', l, h6⟩ := h5
          exact ih n' ρ3 s4 (by omega) h6
        | cnt ρ3 =>
          obtain ⟨n', l, h6⟩ := h5
          exact ih n' ρ3 s4 (by omega) h6
        | brk ρ3 => exact h5
        | ret d => exact h5
  exact key C.fuel m ρ st hm h0
end
end
/-! ### operators at values -/
section
variable {a b : Int}
theorem o_addI : bopV .add (.int a) (.int b) = some (.dat (.int (a + b))) := rfl
theorem o_subI : bopV .sub (.int a) (.int b) = some (.dat (.int (a - b))) := rfl
theorem o_mulI (h : a.natAbs.log2 + b.natAbs.log2 < 1000000) : bopV .mul (.int a) (.int b) = some (.dat (.int (a * b))) := if_pos h
theorem o_fdivI (h : 0 < b) (h2 : b.natAbs.log2 < 9000) : bopV .fdiv (.int a) (.int b) = some (.dat (.int (a / b))) := if_pos ⟨h, h2⟩
theorem o_modI (h : 0 < b) : bopV .mod (.int a) (.int b) = some (.dat (.int (a % b))) := if_pos h
theorem o_addT {x y : List PyData} (h : x.length + y.length ≤ 1000000) : bopV .add (.tuple x) (.tuple y) = some (.dat (.tuple (x ++ y))) := if_pos (by rw [LIM]; omega)
theorem o_addL {x y : List PyData} (h : x.length + y.length ≤ 1000000) : bopV .add (.list x) (.list y) = some (.newL (x ++ y)) := if_pos (by rw [LIM]; omega)
theorem o_ltI : copV .lt (.int a) (.int b) = some (decide (a < b)) := rfl
theorem o_leI : copV .le (.int a) (.int b) = some (decide (a ≤ b)) := rfl
theorem o_gtI : copV .gt (.int a) (.int b) = some (decide (b < a)) := rfl
theorem o_geI : copV .ge (.int a) (.int b) = some (decide (b ≤ a)) := rfl
theorem beqD {α : Type} [BEq α] [LawfulBEq α] [DecidableEq α] {a b : α} : (a == b) = decide (a = b) := by
  by_cases h : a = b <;> simp [h]
theorem eqv_int : PyData.eqv (.int a) (.int b) = decide (a = b) := by simp only [PyData.eqv]; exact beqD
theorem o_eqI : copV .eq (.int a) (.int b) = some (decide (a = b)) := by simp [copV, cmpE, shal, eqv_int]
theorem o_neI : copV .ne (.int a) (.int b) = some (!decide (a = b)) := by simp [copV, cmpE, shal, eqv_int]
theorem o_isN {x : PyData} : copV .isN x .none = some (isNone x) := rfl
theorem o_notN {x : PyData} : copV .notN x .none = some (!isNone x) := rfl
theorem o_eqB {a b : Bool} : copV .eq (.bool a) (.bool b) = some (a == b) := by cases a <;> cases b <;> rfl
theorem o_neB {a b : Bool} : copV .ne (.bool a) (.bool b) = some (!(a == b)) := by cases a <;> cases b <;> rfl
theorem o_eqS {a b : Str} : copV .eq (.str a) (.str b) = some (decide (a = b)) := by simp [copV, cmpE, shal, PyData.eqv, beqD]
theorem o_neS {a b : Str} : copV .ne (.str a) (.str b) = some (!decide (a = b)) := by simp [copV, cmpE, shal, PyData.eqv, beqD]
theorem o_lenL {x : List PyData} : biV .len [.list x] = some (.dat (.int x.length)) := rfl
theorem o_lenT {x : List PyData} : biV .len [.tuple x] = some (.dat (.int x.length)) := rfl
theorem o_abs : biV .abs [.int a] = some (.dat (.int a.natAbs)) := by
  show some (D.dat (.int (if a < 0 then -a else a))) = _
  congr 3
  split <;> omega
theorem o_tupL {x : List PyData} : biV .tuple [.list x] = some (.dat (.tuple x)) := rfl
theorem o_tupT {x : List PyData} : biV .tuple [.tuple x] = some (.dat (.tuple x)) := rfl
theorem o_lisL {x : List PyData} : biV .list [.list x] = some (.newL x) := rfl
theorem o_lisT {x : List PyData} : biV .list [.tuple x] = some (.newL x) := rfl
theorem o_intI : biV .int [.int a] = some (.dat (.int a)) := rfl
theorem o_intB {b : Bool} : biV .int [.bool b] = some (.dat (.int (if b then 1 else 0))) := rfl
theorem truths_bools : ∀ {x : List PyData} {bs : List Bool}, allBools x = some bs → truths x = some bs
  | [], bs, h => by rw [allBools] at h; rw [truths]; exact h
  | x :: xs, bs, h => by
    cases x <;> first | (unfold allBools at h; cases h; done) | skip
    rename_i b
    rw [allBools, Option.map_eq_some_iff] at h
    obtain ⟨cs, h1, rfl⟩ := h
    rw [truths, truths_bools h1]
    rfl
theorem truths_ints : ∀ (ns : List Int), truths (ns.map .int) = some (ns.map (· != 0))
  | [] => rfl
  | n :: ns => by rw [List.map_cons, truths, truths_ints ns]; rfl
theorem o_all {x : List PyData} {bs : List Bool} (h : allBools x = some bs) : biV .all [.list x] = some (.dat (.bool (bs.all id))) := by show (truths x).map _ = _; rw [truths_bools h]; rfl
theorem o_any {x : List PyData} {bs : List Bool} (h : allBools x = some bs) : biV .any [.list x] = some (.dat (.bool (bs.any id))) := by show (truths x).map _ = _; rw [truths_bools h]; rfl
theorem o_anyT {ns : List Int} : biV .any [.tuple (ns.map .int)] = some (.dat (.bool (ns.any (· != 0)))) := by show (truths _).map _ = _; rw [truths_ints]; simp [List.any_map, Function.comp_def]
theorem o_sum {x : List PyData} {bs : List Int} (h : allInts x = some bs) : biV .sum [.list x] = some (.dat (.int bs.sum)) := by show (allInts x).map _ = _; rw [h]; rfl
theorem o_sortL {x : List PyData} {bs : List Int} (h : allInts x = some bs) : biV .sorted [.list x] = some (.newL ((isort bs).map .int)) := by show (allInts x).map _ = _; rw [h]; rfl
theorem o_sortT {x : List PyData} {bs : List Int} (h : allInts x = some bs) : biV .sorted [.tuple x] = some (.newL ((isort bs).map .int)) := by show (allInts x).map _ = _; rw [h]; rfl
theorem allInts_map : ∀ (xs : List Int), allInts (xs.map .int) = some xs
  | [] => rfl
  | x :: xs => by rw [List.map_cons, allInts, allInts_map xs]; rfl
theorem allBools_map : ∀ (xs : List Bool), allBools (xs.map .bool) = some xs
  | [] => rfl
  | x :: xs => by rw [List.map_cons, allBools, allBools_map xs]; rfl
/-- an item -/
theorem o_ixL {x : List PyData} {d : PyData} {n : Nat} (h : x[n]? = some d) : idxV (.list x) (.int n) = some d := by
  have hl : n < x.length := (List.getElem?_eq_some_iff.mp h).1
  show (ixPl x.length n).bind _ = _
  unfold ixPl
  rw [if_pos (by omega), if_pos (by omega)]
  simpa using h
theorem o_ixT {x : List PyData} {d : PyData} {n : Nat} (h : x[n]? = some d) : idxV (.tuple x) (.int n) = some d := o_ixL (x := x) h
theorem ixPl_nat {n m : Nat} (h : m < n) : ixPl n m = some m := by
  unfold ixPl
  rw [if_pos (by omega), if_pos (by omega)]
  simp
end
section
variable {α : Type} {xs : List α} {k : Int}
theorem cut_hi (h : 0 ≤ k) : cut xs none (some k) = xs.take k.toNat := by
  show (xs.drop 0).take ((if k < 0 then (k + (xs.length : Int)).toNat else min k.toNat xs.length) - 0) = _
  rw [if_neg (by omega), List.drop_zero, Nat.sub_zero]
  by_cases l : k.toNat ≤ xs.length
  · rw [Nat.min_eq_left l]
  · rw [Nat.min_eq_right (by omega), List.take_of_length_le (Nat.le_refl _), List.take_of_length_le (by omega)]
theorem cut_lo (h : 0 ≤ k) : cut xs (some k) none = xs.drop k.toNat := by
  show (xs.drop (if k < 0 then (k + (xs.length : Int)).toNat else min k.toNat xs.length)).take (xs.length - (if k < 0 then (k + (xs.length : Int)).toNat else min k.toNat xs.length)) = _
  rw [if_neg (by omega), List.take_of_length_le (by rw [List.length_drop]; omega)]
  by_cases l : k.toNat ≤ xs.length
  · rw [Nat.min_eq_left l]
  · rw [Nat.min_eq_right (by omega), List.drop_of_length_le (Nat.le_refl _), List.drop_of_length_le (by omega)]
theorem cut_last : cut xs none (some (-1)) = xs.dropLast := by
  show (xs.drop 0).take ((if (-1 : Int) < 0 then ((-1 : Int) + (xs.length : Int)).toNat else min (-1 : Int).toNat xs.length) - 0) = _
  rw [if_pos (by decide), List.drop_zero, Nat.sub_zero, List.dropLast_eq_take]
  congr 1
  omega
theorem take_self {st : Store} : st.take st.length = st := List.take_of_length_le (Nat.le_refl _)
theorem take_set {st : Store} {i : Nat} {c : Cell} : (st.set i c).take st.length = st.set i c := List.take_of_length_le (by rw [List.length_set]; exact Nat.le_refl _)
theorem get_set {st : Store} {i : Nat} {c : Cell} (h : i < st.length) : (st.set i c)[i]? = some c := List.getElem?_set_self h
theorem set_set' {st : Store} {i : Nat} {c d : Cell} : (st.set i c).set i d = st.set i d := List.set_set ..
end
section
variable {x y z u : PyData} {xs : List PyData}
theorem ixPl_of {n : Nat} {k : Int} (h : 0 ≤ k) (h2 : k < n) : ixPl n k = some k.toNat := by
  unfold ixPl
  rw [if_pos h, if_pos h2]
theorem ixPl_neg {n : Nat} {k : Int} (h : k < 0) (h2 : -(n : Int) ≤ k) : ixPl n k = some (k + n).toNat := by
  unfold ixPl
  rw [if_neg (by omega), if_pos h2]
theorem o_ix {k : Int} (h : 0 ≤ k) (h2 : k < xs.length) : idxV (.list xs) (.int k) = xs[k.toNat]? := by
  show (ixPl xs.length k).bind _ = _
  rw [ixPl_of h h2]; rfl
theorem o_ixt {k : Int} (h : 0 ≤ k) (h2 : k < xs.length) : idxV (.tuple xs) (.int k) = xs[k.toNat]? := o_ix h h2
theorem o_ix0 : idxV (.list (x :: xs)) (.int 0) = some x := by rw [o_ix (by decide) (by rw [List.length_cons]; omega)]; rfl
theorem o_ix1 : idxV (.list (x :: y :: xs)) (.int 1) = some y := by rw [o_ix (by decide) (by simp only [List.length_cons]; omega)]; rfl
theorem o_ix2 : idxV (.list (x :: y :: z :: xs)) (.int 2) = some z := by rw [o_ix (by decide) (by simp only [List.length_cons]; omega)]; rfl
theorem o_ix3 : idxV (.list (x :: y :: z :: u :: xs)) (.int 3) = some u := by rw [o_ix (by decide) (by simp only [List.length_cons]; omega)]; rfl
theorem o_it0 : idxV (.tuple (x :: xs)) (.int 0) = some x := o_ix0
theorem o_it1 : idxV (.tuple (x :: y :: xs)) (.int 1) = some y := o_ix1
theorem o_it2 : idxV (.tuple (x :: y :: z :: xs)) (.int 2) = some z := o_ix2
theorem o_it3 : idxV (.tuple (x :: y :: z :: u :: xs)) (.int 3) = some u := o_ix3
theorem log2_small {a : Int} {n : Nat} (h : a.natAbs < 2 ^ (n + 1)) : a.natAbs.log2 ≤ n := by
  by_cases h0 : a.natAbs = 0
  · rw [h0]; exact Nat.zero_le _
  · exact Nat.lt_succ_iff.mp ((Nat.log2_lt h0).mpr h)
theorem o_mul {a b : Int} (h1 : -(2 ^ 200) < a) (h2 : a < 2 ^ 200) (h3 : -(2 ^ 200) < b) (h4 : b < 2 ^ 200) : bopV .mul (.int a) (.int b) = some (.dat (.int (a * b))) := by
  refine o_mulI ?_
  have e1 := log2_small (a := a) (n := 199) (by omega)
  have e2 := log2_small (a := b) (n := 199) (by omega)
  omega
theorem o_fdiv {a b : Int} (h1 : 0 < b) (h4 : b < 2 ^ 200) : bopV .fdiv (.int a) (.int b) = some (.dat (.int (a / b))) := by
  refine o_fdivI h1 ?_
  have e2 := log2_small (a := b) (n := 199) (by omega)
  omega
theorem o_pow {a b : Int} (h1 : 0 ≤ b) (h2 : b ≤ 1000000) (h3 : -(2 ^ 60) < a) (h4 : a < 2 ^ 60) : bopV .pow (.int a) (.int b) = some (.dat (.int (a ^ b.toNat))) := if_pos ⟨h1, h2, by omega⟩
theorem o_get {ds : List Int} {k : Int} (h : 0 ≤ k) (h2 : k < ds.length) : idxV (.list (ds.map .int)) (.int k) = some (.int (ds.getD k.toNat 0)) := by
  rw [o_ix h (by rw [List.length_map]; exact h2), List.getElem?_map]
  have hl : k.toNat < ds.length := by omega
  rw [List.getElem?_eq_getElem hl, List.getD_eq_getElem?_getD, List.getElem?_eq_getElem hl]
  rfl
theorem o_gett {ds : List Int} {k : Int} (h : 0 ≤ k) (h2 : k < ds.length) : idxV (.tuple (ds.map .int)) (.int k) = some (.int (ds.getD k.toNat 0)) := o_get h h2
end
theorem lim_lt {n : Nat} (h : n ≤ 1000000) : (n < LIM) = True := eq_true (by rw [LIM]; omega)
theorem lim_of {n : Nat} (h : n ≤ 1000000) : (n ≤ LIM) = True := eq_true (by rw [LIM]; omega)
theorem eqvAll_ints : ∀ (a b : List Int), PyData.eqvAll (a.map .int) (b.map .int) = decide (a = b)
  | [], [] => rfl
  | [], _ :: _ => rfl
  | _ :: _, [] => rfl
  | x :: a, y :: b => by
    rw [List.map_cons, List.map_cons, PyData.eqvAll, eqvAll_ints a b, eqv_int]
    by_cases h : x = y <;> by_cases h2 : a = b <;> simp [h, h2]
theorem shalAll_ints (n : Nat) : ∀ (a : List Int), shalAll n (a.map .int) = true
  | [] => rfl
  | x :: a => by rw [List.map_cons, shalAll, shalAll_ints n a]; cases n <;> rfl
theorem o_eqLI {a b : List Int} : copV .eq (.list (a.map .int)) (.list (b.map .int)) = some (decide (a = b)) := by
  simp [copV, cmpE, shal, shalAll_ints, PyData.eqv, eqvAll_ints]
theorem o_neLI {a b : List Int} : copV .ne (.list (a.map .int)) (.list (b.map .int)) = some (!decide (a = b)) := by
  simp [copV, cmpE, shal, shalAll_ints, PyData.eqv, eqvAll_ints]
theorem o_eqTI {a b : List Int} : copV .eq (.tuple (a.map .int)) (.tuple (b.map .int)) = some (decide (a = b)) := by
  simp [copV, cmpE, shal, shalAll_ints, PyData.eqv, eqvAll_ints]
theorem o_neTI {a b : List Int} : copV .ne (.tuple (a.map .int)) (.tuple (b.map .int)) = some (!decide (a = b)) := by
  simp [copV, cmpE, shal, shalAll_ints, PyData.eqv, eqvAll_ints]
theorem ints_eq : ∀ (n : Nat) (lo : Int), rngL lo n = ((List.range n).map fun k : Nat => lo + (k : Int)).map .int
  | 0, _ => rfl
  | n + 1, lo => by
    have e : (List.range n).map (fun k : Nat => lo + 1 + (k : Int)) = (List.range n).map (fun k : Nat => lo + ((k + 1 : Nat) : Int)) :=
      List.map_congr_left fun k _ => by omega
    rw [rngL, ints_eq n (lo + 1), e, List.range_succ_eq_map, List.map_cons, List.map_cons, List.map_map]
    rw [show lo + ((0 : Nat) : Int) = lo by omega, List.map_map, List.map_map]
    rfl
theorem ints_zero (n : Nat) : rngL 0 n = ((List.range n).map fun k : Nat => (k : Int)).map .int := by
  rw [ints_eq]
  have e : (List.range n).map (fun k : Nat => 0 + (k : Int)) = (List.range n).map (fun k : Nat => (k : Int)) :=
    List.map_congr_left fun k _ => by omega
  rw [e]
end MP
end MW

section L0
set_option Elab.async false
set_option linter.all false
set_option maxRecDepth 100000
set_option autoImplicit false
set_option maxHeartbeats 1000000
/-! L0: the feed; perms. -/
namespace MP
open PySem
def d_is_whole : Def := ⟨"is_whole", ["thing"], ["thing"],
  .cons (.ret (.and (.isi (.var 0) [.int] false) (.not (.isi (.var 0) [.bool] false)))) .nil⟩

def d_law_feed : Def := ⟨"_law_feed", ["_law_script"], ["_law_script"],
  .cons (.ret (.lst (.cons (.bi .list (.cons (.slc (.var 0) .none (.some (.con (.int 63)))) .nil)) (.cons (.con (.int 0)) (.cons (.con (.int 0)) (.cons (.con (.int 0)) .nil)))))) .nil⟩

def d_law_draw : Def := ⟨"_law_draw", ["_law_feed_here", "_law_many"], ["_law_feed_here", "_law_many", "_law_found", "_law_cell", "_law_stirred"],
  .cons (.asg (.sub (.var 0) (.con (.int 1))) (.bin .add (.idx (.var 0) (.con (.int 1))) (.con (.int 1))))
    (.cons (.while_ (.and (.cmp .eq (.idx (.var 0) (.con (.int 2))) (.con (.int 0))) (.cmp .lt (.idx (.var 0) (.con (.int 3))) (.bi .len (.cons (.idx (.var 0) (.con (.int 0))) .nil)))) (.cons (.ife (.cmp .ge (.bi .abs (.cons (.idx (.idx (.var 0) (.con (.int 0))) (.idx (.var 0) (.con (.int 3)))) .nil)) (.bin .pow (.con (.int 10)) (.con (.int 18)))) (.cons (.asg (.sub (.var 0) (.con (.int 2))) (.bi .abs (.cons (.idx (.idx (.var 0) (.con (.int 0))) (.idx (.var 0) (.con (.int 3)))) .nil))) .nil) (.nil)) (.cons (.asg (.sub (.var 0) (.con (.int 3))) (.bin .add (.idx (.var 0) (.con (.int 3))) (.con (.int 1)))) .nil)))
    (.cons (.ife (.cmp .gt (.idx (.var 0) (.con (.int 2))) (.con (.int 0))) (.cons (.asg (.name 2) (.bin .mod (.idx (.var 0) (.con (.int 2))) (.var 1))) (.cons (.asg (.sub (.var 0) (.con (.int 2))) (.bin .fdiv (.idx (.var 0) (.con (.int 2))) (.var 1))) (.cons (.ret (.var 2)) .nil))) (.nil))
    (.cons (.asg (.name 3) (.con (.int 0)))
    (.cons (.ife (.cmp .gt (.bi .len (.cons (.idx (.var 0) (.con (.int 0))) .nil)) (.con (.int 0))) (.cons (.asg (.name 3) (.idx (.idx (.var 0) (.con (.int 0))) (.bin .mod (.idx (.var 0) (.con (.int 1))) (.bi .len (.cons (.idx (.var 0) (.con (.int 0))) .nil))))) .nil) (.nil))
    (.cons (.asg (.name 4) (.bin .mod (.bin .add (.bin .add (.bin .mul (.bin .mod (.var 3) (.con (.int 2147483647))) (.con (.int 48271))) (.bin .mul (.con (.int 7919)) (.idx (.var 0) (.con (.int 1))))) (.con (.int 12345))) (.con (.int 2147483629))))
    (.cons (.asg (.name 4) (.bin .mod (.bin .mul (.var 4) (.bin .add (.var 4) (.con (.int 40692)))) (.con (.int 2147483587))))
    (.cons (.ret (.bin .mod (.bin .mod (.bin .mul (.var 4) (.con (.int 16807))) (.con (.int 2147483563))) (.var 1))) .nil)))))))⟩


def isWhole : PyData → Bool
  | .int _ => true
  | _ => false
/-- the feed's cell -/
def feedC (cs : List Int) (a b c : Int) : Cell := .lst [.list (cs.map .int), .int a, .int b, .int c]
/-- a feed stands at i, at most n draws on -/
def Fd (n : Nat) (st : Store) (i : Nat) : Prop := ∃ (cs : List Int) (a b c : Int), st[i]? = some (feedC cs a b c) ∧ cs.length ≤ 63 ∧ 0 ≤ a ∧ a ≤ n ∧ 0 ≤ b ∧ 0 ≤ c
theorem Fd.mono {n m : Nat} {st : Store} {i : Nat} (h : Fd n st i) (l : n ≤ m) : Fd m st i := by
  obtain ⟨cs, a, b, c, e, h1, h2, h3, h4, h5⟩ := h
  exact ⟨cs, a, b, c, e, h1, h2, by omega, h4, h5⟩
theorem Fd.lt {n : Nat} {st : Store} {i : Nat} (h : Fd n st i) : i < st.length := by
  obtain ⟨cs, a, b, c, e, _⟩ := h
  exact (List.getElem?_eq_some_iff.mp e).1
section
variable {Xp : Exc → Store → Prop} {P : List Def} {w k f : Nat} {st : Store} {Q : D → Store → Prop}
theorem is_whole_ok (hf : P[f]? = some d_is_whole) {d : PyData} (h : Q (.dat (.bool (isWhole d))) st) : wp Xp (callF P w (k + 1) f [.dat d]) st Q := by
  refine wp_call hf rfl ?_
  simp only [d_is_whole, List.map_cons, List.map_nil, List.length_cons, List.length_nil, Nat.sub_self, List.replicate_zero, List.append_nil]
  simp only [w_pure, w_ofO, w_guard, w_look, w_lookN, w_lookR, w_settle, w_settleN, w_settleD, w_asInt, w_asBool, w_refOf, w_cellAt, w_newCell, w_newCellD, w_looks0, w_looks, w_var, w_con, w_glob, w_bin, w_neg, w_cmp, w_chain, w_isin, w_and, w_or, w_not, w_ifx, w_tup, w_lst, w_emp, w_idx, w_slc, w_bi, w_lrng, w_isi, w_call, w_cell, w_app, w_pop, w_popAt, w_esN, w_es, w_asN, w_as, w_oN, w_o, w_ifN, w_if, w_tgN, w_tgT, w_tgS, w_tgsN, w_tgs, w_itV, w_it1, w_it2, w_itE, w_itZ, w_asg, w_par, w_expr, w_ret, w_sife, w_stsN, w_sts1, w_brk, w_cnt, w_pass, w_leave, w_leaveN, w_leaveD, ends_ret, w_bind, w_noX, keep_dat, keep_ref, keep_newL, keep_newD, tgsLen, seqOf, exists_eq_left', exists_eq_left, exists_eq', exists_and_left, exists_const, Option.some.injEq, Option.map_some, Option.bind_some, List.getElem?_cons_zero, List.getElem?_cons_succ, List.set_cons_zero, List.set_cons_succ, List.any_cons, List.any_nil, List.map_cons, List.map_nil, List.cons_append, List.nil_append, List.length_cons, List.length_nil, PyData.int.injEq, PyData.bool.injEq, PyData.str.injEq, PyData.list.injEq, PyData.tuple.injEq, D.dat.injEq, Cell.lst.injEq, List.cons.injEq, Bool.not_true, Bool.not_false, Bool.or_false, Bool.or_true, Bool.false_or, Bool.true_or, Bool.and_true, Bool.true_and, Bool.and_false, Bool.false_and, decide_true, decide_false, decide_eq_true_eq, decide_eq_false_iff_not, true_and, and_true, false_and, and_false, Bool.false_eq_true, Bool.true_eq_false, reduceCtorEq, if_true, if_false, ite_true, ite_false, true_implies, false_implies, implies_true, forall_const, forall_eq', forall_eq, id, Bool.not_eq_true', Bool.not_eq_false', wipeE]
  rw [List.take_of_length_le (Nat.le_refl _)]
  cases d <;> simp_all [isiV, tyOf, isWhole]
theorem feed_ok (hf : P[f]? = some d_law_feed) {ns : List Int} (hn : ns.length ≤ 63) (h : Q (.newL [.list (ns.map .int), .int 0, .int 0, .int 0]) st) : wp Xp (callF P w (k + 1) f [.dat (.list (ns.map .int))]) st Q := by
  refine wp_call hf rfl ?_
  simp only [d_law_feed, List.map_cons, List.map_nil, List.length_cons, List.length_nil, Nat.sub_self, List.replicate_zero, List.append_nil]
  simp only [w_pure, w_ofO, w_guard, w_look, w_lookN, w_lookR, w_settle, w_settleN, w_settleD, w_asInt, w_asBool, w_refOf, w_cellAt, w_newCell, w_newCellD, w_looks0, w_looks, w_var, w_con, w_glob, w_bin, w_neg, w_cmp, w_chain, w_isin, w_and, w_or, w_not, w_ifx, w_tup, w_lst, w_emp, w_idx, w_slc, w_bi, w_lrng, w_isi, w_call, w_cell, w_app, w_pop, w_popAt, w_esN, w_es, w_asN, w_as, w_oN, w_o, w_ifN, w_if, w_tgN, w_tgT, w_tgS, w_tgsN, w_tgs, w_itV, w_it1, w_it2, w_itE, w_itZ, w_asg, w_par, w_expr, w_ret, w_sife, w_stsN, w_sts1, w_brk, w_cnt, w_pass, w_leave, w_leaveN, w_leaveD, ends_ret, w_bind, w_noX, keep_dat, keep_ref, keep_newL, keep_newD, tgsLen, seqOf, exists_eq_left', exists_eq_left, exists_eq', exists_and_left, exists_const, Option.some.injEq, Option.map_some, Option.bind_some, List.getElem?_cons_zero, List.getElem?_cons_succ, List.set_cons_zero, List.set_cons_succ, List.any_cons, List.any_nil, List.map_cons, List.map_nil, List.cons_append, List.nil_append, List.length_cons, List.length_nil, PyData.int.injEq, PyData.bool.injEq, PyData.str.injEq, PyData.list.injEq, PyData.tuple.injEq, D.dat.injEq, Cell.lst.injEq, List.cons.injEq, Bool.not_true, Bool.not_false, Bool.or_false, Bool.or_true, Bool.false_or, Bool.true_or, Bool.and_true, Bool.true_and, Bool.and_false, Bool.false_and, decide_true, decide_false, decide_eq_true_eq, decide_eq_false_iff_not, true_and, and_true, false_and, and_false, Bool.false_eq_true, Bool.true_eq_false, reduceCtorEq, if_true, if_false, ite_true, ite_false, true_implies, false_implies, implies_true, forall_const, forall_eq', forall_eq, id, Bool.not_eq_true', Bool.not_eq_false', wipeE, cutV, o_lisL]
  rw [cut_hi (by decide), List.take_of_length_le (by simpa using hn), take_self]
  exact ⟨by decide, h⟩
theorem draw_ok (hf : P[f]? = some d_law_draw) (hw : 65 ≤ w) {i n : Nat} {m : Int} (h0 : 0 < m) (hm : m < 2 ^ 100) (hn : n ≤ 2 ^ 60) (hF : Fd n st i)
    (h : ∀ v c, 0 ≤ v → v < m → Fd (n + 1) (st.set i c) i → Q (.dat (.int v)) (st.set i c)) : wp Xp (callF P w (k + 1) f [.ref i, .dat (.int m)]) st Q := by
  obtain ⟨cs, a, b, c, e, h1, h2, h3, h4, h5⟩ := hF
  have hi : i < st.length := (List.getElem?_eq_some_iff.mp e).1
  refine wp_call hf rfl ?_
  simp only [d_law_draw, List.map_cons, List.map_nil, List.length_cons, List.length_nil]
  refine wp_cons fun K kn kr => ?_
  simp (disch := omega) only [w_pure, w_ofO, w_guard, w_look, w_lookN, w_lookR, w_settle, w_settleN, w_settleD, w_asInt, w_asBool, w_refOf, w_cellAt, w_newCell, w_newCellD, w_looks0, w_looks, w_var, w_con, w_glob, w_bin, w_neg, w_cmp, w_chain, w_isin, w_and, w_or, w_not, w_ifx, w_tup, w_lst, w_emp, w_idx, w_slc, w_bi, w_lrng, w_isi, w_call, w_cell, w_app, w_pop, w_popAt, w_esN, w_es, w_asN, w_as, w_oN, w_o, w_ifN, w_if, w_tgN, w_tgT, w_tgS, w_tgsN, w_tgs, w_itV, w_it1, w_it2, w_itE, w_itZ, w_asg, w_par, w_expr, w_ret, w_sife, w_stsN, w_sts1, w_brk, w_cnt, w_pass, w_leave, w_leaveN, w_leaveD, ends_ret, w_bind, w_noX, keep_dat, keep_ref, keep_newL, keep_newD, tgsLen, seqOf, exists_eq_left', exists_eq_left, exists_eq', exists_and_left, exists_const, Option.some.injEq, Option.map_some, Option.bind_some, List.getElem?_cons_zero, List.getElem?_cons_succ, List.set_cons_zero, List.set_cons_succ, List.any_cons, List.any_nil, List.map_cons, List.map_nil, List.cons_append, List.nil_append, List.length_cons, List.length_nil, PyData.int.injEq, PyData.bool.injEq, PyData.str.injEq, PyData.list.injEq, PyData.tuple.injEq, D.dat.injEq, Cell.lst.injEq, List.cons.injEq, Bool.not_true, Bool.not_false, Bool.or_false, Bool.or_true, Bool.false_or, Bool.true_or, Bool.and_true, Bool.true_and, Bool.and_false, Bool.false_and, decide_true, decide_false, decide_eq_true_eq, decide_eq_false_iff_not, true_and, and_true, false_and, and_false, Bool.false_eq_true, Bool.true_eq_false, reduceCtorEq, if_true, if_false, ite_true, ite_false, true_implies, false_implies, implies_true, forall_const, forall_eq', forall_eq, id, Bool.not_eq_true', Bool.not_eq_false', wipeE, Nat.zero_le, lim_of, lim_lt, o_addI, o_subI, o_mul, o_fdiv, o_modI, o_pow, o_addT, o_addL, o_ltI, o_leI, o_gtI, o_geI, o_eqI, o_neI, o_isN, o_notN, o_eqB, o_neB, o_eqS, o_neS, o_lenL, o_lenT, o_abs, o_tupL, o_tupT, o_lisL, o_lisT, o_intI, o_intB, o_ix0, o_ix1, o_ix2, o_ix3, o_it0, o_it1, o_it2, o_it3, ixPl_of, take_self, take_set, get_set, set_set', List.length_set, Nat.reduceAdd, Nat.reduceSub, List.replicate_succ, List.replicate_zero, List.set_cons_zero, List.set_cons_succ, Int.reduceToNat, Int.toNat_one, Int.toNat_zero, feedC, e]
  refine kn _ _ ?_
  refine wp_cons fun K1 kn1 kr1 => ?_
  have rest : ∀ b c : Int, 0 ≤ b → 0 ≤ c → K1 (.next [some (.ref i), some (.dat (.int m)), none, none, none]) (st.set i (Cell.lst [.list (cs.map .int), .int (a + 1), .int b, .int c])) := fun b c hb hc => kn1 _ _ (by
    have fin : ∀ (v : Int) (b' : Int), 0 ≤ v → v < m → 0 ≤ b' → Q (.dat (.int v)) (st.set i (Cell.lst [.list (cs.map .int), .int (a + 1), .int b', .int c])) := fun v b' v0 v1 v2 => h v _ v0 v1 ⟨cs, a + 1, b', c, get_set hi, h1, by omega, by omega, v2, hc⟩
    refine wp_cons fun K kn kr => ?_
    simp (disch := omega) only [w_pure, w_ofO, w_guard, w_look, w_lookN, w_lookR, w_settle, w_settleN, w_settleD, w_asInt, w_asBool, w_refOf, w_cellAt, w_newCell, w_newCellD, w_looks0, w_looks, w_var, w_con, w_glob, w_bin, w_neg, w_cmp, w_chain, w_isin, w_and, w_or, w_not, w_ifx, w_tup, w_lst, w_emp, w_idx, w_slc, w_bi, w_lrng, w_isi, w_call, w_cell, w_app, w_pop, w_popAt, w_esN, w_es, w_asN, w_as, w_oN, w_o, w_ifN, w_if, w_tgN, w_tgT, w_tgS, w_tgsN, w_tgs, w_itV, w_it1, w_it2, w_itE, w_itZ, w_asg, w_par, w_expr, w_ret, w_sife, w_stsN, w_sts1, w_brk, w_cnt, w_pass, w_leave, w_leaveN, w_leaveD, ends_ret, w_bind, w_noX, keep_dat, keep_ref, keep_newL, keep_newD, tgsLen, seqOf, exists_eq_left', exists_eq_left, exists_eq', exists_and_left, exists_const, Option.some.injEq, Option.map_some, Option.bind_some, List.getElem?_cons_zero, List.getElem?_cons_succ, List.set_cons_zero, List.set_cons_succ, List.any_cons, List.any_nil, List.map_cons, List.map_nil, List.cons_append, List.nil_append, List.length_cons, List.length_nil, PyData.int.injEq, PyData.bool.injEq, PyData.str.injEq, PyData.list.injEq, PyData.tuple.injEq, D.dat.injEq, Cell.lst.injEq, List.cons.injEq, Bool.not_true, Bool.not_false, Bool.or_false, Bool.or_true, Bool.false_or, Bool.true_or, Bool.and_true, Bool.true_and, Bool.and_false, Bool.false_and, decide_true, decide_false, decide_eq_true_eq, decide_eq_false_iff_not, true_and, and_true, false_and, and_false, Bool.false_eq_true, Bool.true_eq_false, reduceCtorEq, if_true, if_false, ite_true, ite_false, true_implies, false_implies, implies_true, forall_const, forall_eq', forall_eq, id, Bool.not_eq_true', Bool.not_eq_false', wipeE, Nat.zero_le, lim_of, lim_lt, o_addI, o_subI, o_mul, o_fdiv, o_modI, o_pow, o_addT, o_addL, o_ltI, o_leI, o_gtI, o_geI, o_eqI, o_neI, o_isN, o_notN, o_eqB, o_neB, o_eqS, o_neS, o_lenL, o_lenT, o_abs, o_tupL, o_tupT, o_lisL, o_lisT, o_intI, o_intB, o_ix0, o_ix1, o_ix2, o_ix3, o_it0, o_it1, o_it2, o_it3, ixPl_of, take_self, take_set, get_set, set_set', List.length_set, Nat.reduceAdd, Nat.reduceSub, List.replicate_succ, List.replicate_zero, List.set_cons_zero, List.set_cons_succ, Int.reduceToNat, Int.toNat_one, Int.toNat_zero]
    refine ⟨fun hb1 => ?_, fun hb1 => kn _ _ ?_⟩
    · refine wp_cons fun K' kn' kr' => ?_
      simp (disch := omega) only [w_pure, w_ofO, w_guard, w_look, w_lookN, w_lookR, w_settle, w_settleN, w_settleD, w_asInt, w_asBool, w_refOf, w_cellAt, w_newCell, w_newCellD, w_looks0, w_looks, w_var, w_con, w_glob, w_bin, w_neg, w_cmp, w_chain, w_isin, w_and, w_or, w_not, w_ifx, w_tup, w_lst, w_emp, w_idx, w_slc, w_bi, w_lrng, w_isi, w_call, w_cell, w_app, w_pop, w_popAt, w_esN, w_es, w_asN, w_as, w_oN, w_o, w_ifN, w_if, w_tgN, w_tgT, w_tgS, w_tgsN, w_tgs, w_itV, w_it1, w_it2, w_itE, w_itZ, w_asg, w_par, w_expr, w_ret, w_sife, w_stsN, w_sts1, w_brk, w_cnt, w_pass, w_leave, w_leaveN, w_leaveD, ends_ret, w_bind, w_noX, keep_dat, keep_ref, keep_newL, keep_newD, tgsLen, seqOf, exists_eq_left', exists_eq_left, exists_eq', exists_and_left, exists_const, Option.some.injEq, Option.map_some, Option.bind_some, List.getElem?_cons_zero, List.getElem?_cons_succ, List.set_cons_zero, List.set_cons_succ, List.any_cons, List.any_nil, List.map_cons, List.map_nil, List.cons_append, List.nil_append, List.length_cons, List.length_nil, PyData.int.injEq, PyData.bool.injEq, PyData.str.injEq, PyData.list.injEq, PyData.tuple.injEq, D.dat.injEq, Cell.lst.injEq, List.cons.injEq, Bool.not_true, Bool.not_false, Bool.or_false, Bool.or_true, Bool.false_or, Bool.true_or, Bool.and_true, Bool.true_and, Bool.and_false, Bool.false_and, decide_true, decide_false, decide_eq_true_eq, decide_eq_false_iff_not, true_and, and_true, false_and, and_false, Bool.false_eq_true, Bool.true_eq_false, reduceCtorEq, if_true, if_false, ite_true, ite_false, true_implies, false_implies, implies_true, forall_const, forall_eq', forall_eq, id, Bool.not_eq_true', Bool.not_eq_false', wipeE, Nat.zero_le, lim_of, lim_lt, o_addI, o_subI, o_mul, o_fdiv, o_modI, o_pow, o_addT, o_addL, o_ltI, o_leI, o_gtI, o_geI, o_eqI, o_neI, o_isN, o_notN, o_eqB, o_neB, o_eqS, o_neS, o_lenL, o_lenT, o_abs, o_tupL, o_tupT, o_lisL, o_lisT, o_intI, o_intB, o_ix0, o_ix1, o_ix2, o_ix3, o_it0, o_it1, o_it2, o_it3, ixPl_of, take_self, take_set, get_set, set_set', List.length_set, Nat.reduceAdd, Nat.reduceSub, List.replicate_succ, List.replicate_zero, List.set_cons_zero, List.set_cons_succ, Int.reduceToNat, Int.toNat_one, Int.toNat_zero]
      refine kn' _ _ ?_
      refine wp_cons fun K' kn' kr' => ?_
      simp (disch := omega) only [w_pure, w_ofO, w_guard, w_look, w_lookN, w_lookR, w_settle, w_settleN, w_settleD, w_asInt, w_asBool, w_refOf, w_cellAt, w_newCell, w_newCellD, w_looks0, w_looks, w_var, w_con, w_glob, w_bin, w_neg, w_cmp, w_chain, w_isin, w_and, w_or, w_not, w_ifx, w_tup, w_lst, w_emp, w_idx, w_slc, w_bi, w_lrng, w_isi, w_call, w_cell, w_app, w_pop, w_popAt, w_esN, w_es, w_asN, w_as, w_oN, w_o, w_ifN, w_if, w_tgN, w_tgT, w_tgS, w_tgsN, w_tgs, w_itV, w_it1, w_it2, w_itE, w_itZ, w_asg, w_par, w_expr, w_ret, w_sife, w_stsN, w_sts1, w_brk, w_cnt, w_pass, w_leave, w_leaveN, w_leaveD, ends_ret, w_bind, w_noX, keep_dat, keep_ref, keep_newL, keep_newD, tgsLen, seqOf, exists_eq_left', exists_eq_left, exists_eq', exists_and_left, exists_const, Option.some.injEq, Option.map_some, Option.bind_some, List.getElem?_cons_zero, List.getElem?_cons_succ, List.set_cons_zero, List.set_cons_succ, List.any_cons, List.any_nil, List.map_cons, List.map_nil, List.cons_append, List.nil_append, List.length_cons, List.length_nil, PyData.int.injEq, PyData.bool.injEq, PyData.str.injEq, PyData.list.injEq, PyData.tuple.injEq, D.dat.injEq, Cell.lst.injEq, List.cons.injEq, Bool.not_true, Bool.not_false, Bool.or_false, Bool.or_true, Bool.false_or, Bool.true_or, Bool.and_true, Bool.true_and, Bool.and_false, Bool.false_and, decide_true, decide_false, decide_eq_true_eq, decide_eq_false_iff_not, true_and, and_true, false_and, and_false, Bool.false_eq_true, Bool.true_eq_false, reduceCtorEq, if_true, if_false, ite_true, ite_false, true_implies, false_implies, implies_true, forall_const, forall_eq', forall_eq, id, Bool.not_eq_true', Bool.not_eq_false', wipeE, Nat.zero_le, lim_of, lim_lt, o_addI, o_subI, o_mul, o_fdiv, o_modI, o_pow, o_addT, o_addL, o_ltI, o_leI, o_gtI, o_geI, o_eqI, o_neI, o_isN, o_notN, o_eqB, o_neB, o_eqS, o_neS, o_lenL, o_lenT, o_abs, o_tupL, o_tupT, o_lisL, o_lisT, o_intI, o_intB, o_ix0, o_ix1, o_ix2, o_ix3, o_it0, o_it1, o_it2, o_it3, ixPl_of, take_self, take_set, get_set, set_set', List.length_set, Nat.reduceAdd, Nat.reduceSub, List.replicate_succ, List.replicate_zero, List.set_cons_zero, List.set_cons_succ, Int.reduceToNat, Int.toNat_one, Int.toNat_zero]
      refine kn' _ _ ?_
      simp (disch := omega) only [w_pure, w_ofO, w_guard, w_look, w_lookN, w_lookR, w_settle, w_settleN, w_settleD, w_asInt, w_asBool, w_refOf, w_cellAt, w_newCell, w_newCellD, w_looks0, w_looks, w_var, w_con, w_glob, w_bin, w_neg, w_cmp, w_chain, w_isin, w_and, w_or, w_not, w_ifx, w_tup, w_lst, w_emp, w_idx, w_slc, w_bi, w_lrng, w_isi, w_call, w_cell, w_app, w_pop, w_popAt, w_esN, w_es, w_asN, w_as, w_oN, w_o, w_ifN, w_if, w_tgN, w_tgT, w_tgS, w_tgsN, w_tgs, w_itV, w_it1, w_it2, w_itE, w_itZ, w_asg, w_par, w_expr, w_ret, w_sife, w_stsN, w_sts1, w_brk, w_cnt, w_pass, w_leave, w_leaveN, w_leaveD, ends_ret, w_bind, w_noX, keep_dat, keep_ref, keep_newL, keep_newD, tgsLen, seqOf, exists_eq_left', exists_eq_left, exists_eq', exists_and_left, exists_const, Option.some.injEq, Option.map_some, Option.bind_some, List.getElem?_cons_zero, List.getElem?_cons_succ, List.set_cons_zero, List.set_cons_succ, List.any_cons, List.any_nil, List.map_cons, List.map_nil, List.cons_append, List.nil_append, List.length_cons, List.length_nil, PyData.int.injEq, PyData.bool.injEq, PyData.str.injEq, PyData.list.injEq, PyData.tuple.injEq, D.dat.injEq, Cell.lst.injEq, List.cons.injEq, Bool.not_true, Bool.not_false, Bool.or_false, Bool.or_true, Bool.false_or, Bool.true_or, Bool.and_true, Bool.true_and, Bool.and_false, Bool.false_and, decide_true, decide_false, decide_eq_true_eq, decide_eq_false_iff_not, true_and, and_true, false_and, and_false, Bool.false_eq_true, Bool.true_eq_false, reduceCtorEq, if_true, if_false, ite_true, ite_false, true_implies, false_implies, implies_true, forall_const, forall_eq', forall_eq, id, Bool.not_eq_true', Bool.not_eq_false', wipeE, Nat.zero_le, lim_of, lim_lt, o_addI, o_subI, o_mul, o_fdiv, o_modI, o_pow, o_addT, o_addL, o_ltI, o_leI, o_gtI, o_geI, o_eqI, o_neI, o_isN, o_notN, o_eqB, o_neB, o_eqS, o_neS, o_lenL, o_lenT, o_abs, o_tupL, o_tupT, o_lisL, o_lisT, o_intI, o_intB, o_ix0, o_ix1, o_ix2, o_ix3, o_it0, o_it1, o_it2, o_it3, ixPl_of, take_self, take_set, get_set, set_set', List.length_set, Nat.reduceAdd, Nat.reduceSub, List.replicate_succ, List.replicate_zero, List.set_cons_zero, List.set_cons_succ, Int.reduceToNat, Int.toNat_one, Int.toNat_zero]
      refine kr _ _ ?_
      simp (disch := omega) only [w_pure, w_ofO, w_guard, w_look, w_lookN, w_lookR, w_settle, w_settleN, w_settleD, w_asInt, w_asBool, w_refOf, w_cellAt, w_newCell, w_newCellD, w_looks0, w_looks, w_var, w_con, w_glob, w_bin, w_neg, w_cmp, w_chain, w_isin, w_and, w_or, w_not, w_ifx, w_tup, w_lst, w_emp, w_idx, w_slc, w_bi, w_lrng, w_isi, w_call, w_cell, w_app, w_pop, w_popAt, w_esN, w_es, w_asN, w_as, w_oN, w_o, w_ifN, w_if, w_tgN, w_tgT, w_tgS, w_tgsN, w_tgs, w_itV, w_it1, w_it2, w_itE, w_itZ, w_asg, w_par, w_expr, w_ret, w_sife, w_stsN, w_sts1, w_brk, w_cnt, w_pass, w_leave, w_leaveN, w_leaveD, ends_ret, w_bind, w_noX, keep_dat, keep_ref, keep_newL, keep_newD, tgsLen, seqOf, exists_eq_left', exists_eq_left, exists_eq', exists_and_left, exists_const, Option.some.injEq, Option.map_some, Option.bind_some, List.getElem?_cons_zero, List.getElem?_cons_succ, List.set_cons_zero, List.set_cons_succ, List.any_cons, List.any_nil, List.map_cons, List.map_nil, List.cons_append, List.nil_append, List.length_cons, List.length_nil, PyData.int.injEq, PyData.bool.injEq, PyData.str.injEq, PyData.list.injEq, PyData.tuple.injEq, D.dat.injEq, Cell.lst.injEq, List.cons.injEq, Bool.not_true, Bool.not_false, Bool.or_false, Bool.or_true, Bool.false_or, Bool.true_or, Bool.and_true, Bool.true_and, Bool.and_false, Bool.false_and, decide_true, decide_false, decide_eq_true_eq, decide_eq_false_iff_not, true_and, and_true, false_and, and_false, Bool.false_eq_true, Bool.true_eq_false, reduceCtorEq, if_true, if_false, ite_true, ite_false, true_implies, false_implies, implies_true, forall_const, forall_eq', forall_eq, id, Bool.not_eq_true', Bool.not_eq_false', wipeE, Nat.zero_le, lim_of, lim_lt, o_addI, o_subI, o_mul, o_fdiv, o_modI, o_pow, o_addT, o_addL, o_ltI, o_leI, o_gtI, o_geI, o_eqI, o_neI, o_isN, o_notN, o_eqB, o_neB, o_eqS, o_neS, o_lenL, o_lenT, o_abs, o_tupL, o_tupT, o_lisL, o_lisT, o_intI, o_intB, o_ix0, o_ix1, o_ix2, o_ix3, o_it0, o_it1, o_it2, o_it3, ixPl_of, take_self, take_set, get_set, set_set', List.length_set, Nat.reduceAdd, Nat.reduceSub, List.replicate_succ, List.replicate_zero, List.set_cons_zero, List.set_cons_succ, Int.reduceToNat, Int.toNat_one, Int.toNat_zero]
      exact fin _ _ (Int.emod_nonneg _ (by omega)) (Int.emod_lt_of_pos _ h0) (Int.ediv_nonneg hb (by omega))
    · refine wp_cons fun K' kn' kr' => ?_
      simp (disch := omega) only [w_pure, w_ofO, w_guard, w_look, w_lookN, w_lookR, w_settle, w_settleN, w_settleD, w_asInt, w_asBool, w_refOf, w_cellAt, w_newCell, w_newCellD, w_looks0, w_looks, w_var, w_con, w_glob, w_bin, w_neg, w_cmp, w_chain, w_isin, w_and, w_or, w_not, w_ifx, w_tup, w_lst, w_emp, w_idx, w_slc, w_bi, w_lrng, w_isi, w_call, w_cell, w_app, w_pop, w_popAt, w_esN, w_es, w_asN, w_as, w_oN, w_o, w_ifN, w_if, w_tgN, w_tgT, w_tgS, w_tgsN, w_tgs, w_itV, w_it1, w_it2, w_itE, w_itZ, w_asg, w_par, w_expr, w_ret, w_sife, w_stsN, w_sts1, w_brk, w_cnt, w_pass, w_leave, w_leaveN, w_leaveD, ends_ret, w_bind, w_noX, keep_dat, keep_ref, keep_newL, keep_newD, tgsLen, seqOf, exists_eq_left', exists_eq_left, exists_eq', exists_and_left, exists_const, Option.some.injEq, Option.map_some, Option.bind_some, List.getElem?_cons_zero, List.getElem?_cons_succ, List.set_cons_zero, List.set_cons_succ, List.any_cons, List.any_nil, List.map_cons, List.map_nil, List.cons_append, List.nil_append, List.length_cons, List.length_nil, PyData.int.injEq, PyData.bool.injEq, PyData.str.injEq, PyData.list.injEq, PyData.tuple.injEq, D.dat.injEq, Cell.lst.injEq, List.cons.injEq, Bool.not_true, Bool.not_false, Bool.or_false, Bool.or_true, Bool.false_or, Bool.true_or, Bool.and_true, Bool.true_and, Bool.and_false, Bool.false_and, decide_true, decide_false, decide_eq_true_eq, decide_eq_false_iff_not, true_and, and_true, false_and, and_false, Bool.false_eq_true, Bool.true_eq_false, reduceCtorEq, if_true, if_false, ite_true, ite_false, true_implies, false_implies, implies_true, forall_const, forall_eq', forall_eq, id, Bool.not_eq_true', Bool.not_eq_false', wipeE, Nat.zero_le, lim_of, lim_lt, o_addI, o_subI, o_mul, o_fdiv, o_modI, o_pow, o_addT, o_addL, o_ltI, o_leI, o_gtI, o_geI, o_eqI, o_neI, o_isN, o_notN, o_eqB, o_neB, o_eqS, o_neS, o_lenL, o_lenT, o_abs, o_tupL, o_tupT, o_lisL, o_lisT, o_intI, o_intB, o_ix0, o_ix1, o_ix2, o_ix3, o_it0, o_it1, o_it2, o_it3, ixPl_of, take_self, take_set, get_set, set_set', List.length_set, Nat.reduceAdd, Nat.reduceSub, List.replicate_succ, List.replicate_zero, List.set_cons_zero, List.set_cons_succ, Int.reduceToNat, Int.toNat_one, Int.toNat_zero]
      refine kn' _ _ ?_
      refine wp_cons fun K' kn' kr' => ?_
      simp (disch := omega) only [w_pure, w_ofO, w_guard, w_look, w_lookN, w_lookR, w_settle, w_settleN, w_settleD, w_asInt, w_asBool, w_refOf, w_cellAt, w_newCell, w_newCellD, w_looks0, w_looks, w_var, w_con, w_glob, w_bin, w_neg, w_cmp, w_chain, w_isin, w_and, w_or, w_not, w_ifx, w_tup, w_lst, w_emp, w_idx, w_slc, w_bi, w_lrng, w_isi, w_call, w_cell, w_app, w_pop, w_popAt, w_esN, w_es, w_asN, w_as, w_oN, w_o, w_ifN, w_if, w_tgN, w_tgT, w_tgS, w_tgsN, w_tgs, w_itV, w_it1, w_it2, w_itE, w_itZ, w_asg, w_par, w_expr, w_ret, w_sife, w_stsN, w_sts1, w_brk, w_cnt, w_pass, w_leave, w_leaveN, w_leaveD, ends_ret, w_bind, w_noX, keep_dat, keep_ref, keep_newL, keep_newD, tgsLen, seqOf, exists_eq_left', exists_eq_left, exists_eq', exists_and_left, exists_const, Option.some.injEq, Option.map_some, Option.bind_some, List.getElem?_cons_zero, List.getElem?_cons_succ, List.set_cons_zero, List.set_cons_succ, List.any_cons, List.any_nil, List.map_cons, List.map_nil, List.cons_append, List.nil_append, List.length_cons, List.length_nil, PyData.int.injEq, PyData.bool.injEq, PyData.str.injEq, PyData.list.injEq, PyData.tuple.injEq, D.dat.injEq, Cell.lst.injEq, List.cons.injEq, Bool.not_true, Bool.not_false, Bool.or_false, Bool.or_true, Bool.false_or, Bool.true_or, Bool.and_true, Bool.true_and, Bool.and_false, Bool.false_and, decide_true, decide_false, decide_eq_true_eq, decide_eq_false_iff_not, true_and, and_true, false_and, and_false, Bool.false_eq_true, Bool.true_eq_false, reduceCtorEq, if_true, if_false, ite_true, ite_false, true_implies, false_implies, implies_true, forall_const, forall_eq', forall_eq, id, Bool.not_eq_true', Bool.not_eq_false', wipeE, Nat.zero_le, lim_of, lim_lt, o_addI, o_subI, o_mul, o_fdiv, o_modI, o_pow, o_addT, o_addL, o_ltI, o_leI, o_gtI, o_geI, o_eqI, o_neI, o_isN, o_notN, o_eqB, o_neB, o_eqS, o_neS, o_lenL, o_lenT, o_abs, o_tupL, o_tupT, o_lisL, o_lisT, o_intI, o_intB, o_ix0, o_ix1, o_ix2, o_ix3, o_it0, o_it1, o_it2, o_it3, ixPl_of, take_self, take_set, get_set, set_set', List.length_set, Nat.reduceAdd, Nat.reduceSub, List.replicate_succ, List.replicate_zero, List.set_cons_zero, List.set_cons_succ, Int.reduceToNat, Int.toNat_one, Int.toNat_zero, List.length_map]
      refine ⟨fun hl => ?_, fun hl => kn' _ _ ?_⟩
      · have q0 := Int.emod_nonneg (a + 1) (show (cs.length : Int) ≠ 0 by omega)
        have q1 := Int.emod_lt_of_pos (a + 1) hl
        simp only [w_pure, w_ofO, w_guard, w_look, w_lookN, w_lookR, w_settle, w_settleN, w_settleD, w_asInt, w_asBool, w_refOf, w_cellAt, w_newCell, w_newCellD, w_looks0, w_looks, w_var, w_con, w_glob, w_bin, w_neg, w_cmp, w_chain, w_isin, w_and, w_or, w_not, w_ifx, w_tup, w_lst, w_emp, w_idx, w_slc, w_bi, w_lrng, w_isi, w_call, w_cell, w_app, w_pop, w_popAt, w_esN, w_es, w_asN, w_as, w_oN, w_o, w_ifN, w_if, w_tgN, w_tgT, w_tgS, w_tgsN, w_tgs, w_itV, w_it1, w_it2, w_itE, w_itZ, w_asg, w_par, w_expr, w_ret, w_sife, w_stsN, w_sts1, w_brk, w_cnt, w_pass, w_leave, w_leaveN, w_leaveD, ends_ret, w_bind, w_noX, keep_dat, keep_ref, keep_newL, keep_newD, tgsLen, seqOf, exists_eq_left', exists_eq_left, exists_eq', exists_and_left, exists_const, Option.some.injEq, Option.map_some, Option.bind_some, List.getElem?_cons_zero, List.getElem?_cons_succ, List.set_cons_zero, List.set_cons_succ, List.any_cons, List.any_nil, List.map_cons, List.map_nil, List.cons_append, List.nil_append, List.length_cons, List.length_nil, PyData.int.injEq, PyData.bool.injEq, PyData.str.injEq, PyData.list.injEq, PyData.tuple.injEq, D.dat.injEq, Cell.lst.injEq, List.cons.injEq, Bool.not_true, Bool.not_false, Bool.or_false, Bool.or_true, Bool.false_or, Bool.true_or, Bool.and_true, Bool.true_and, Bool.and_false, Bool.false_and, decide_true, decide_false, decide_eq_true_eq, decide_eq_false_iff_not, true_and, and_true, false_and, and_false, Bool.false_eq_true, Bool.true_eq_false, reduceCtorEq, if_true, if_false, ite_true, ite_false, true_implies, false_implies, implies_true, forall_const, forall_eq', forall_eq, id, Bool.not_eq_true', Bool.not_eq_false', wipeE, o_lenL, o_ix0, o_ix1, o_get q0 q1, o_modI hl, List.length_map, List.set_cons_zero, List.set_cons_succ, get_set hi]
        clear q0 q1
        refine kn' _ _ ?_
        generalize cs.getD ((a + 1) % (cs.length : Int)).toNat 0 = x
        refine wp_cons fun K' kn' kr' => ?_
        simp (disch := omega) only [w_pure, w_ofO, w_guard, w_look, w_lookN, w_lookR, w_settle, w_settleN, w_settleD, w_asInt, w_asBool, w_refOf, w_cellAt, w_newCell, w_newCellD, w_looks0, w_looks, w_var, w_con, w_glob, w_bin, w_neg, w_cmp, w_chain, w_isin, w_and, w_or, w_not, w_ifx, w_tup, w_lst, w_emp, w_idx, w_slc, w_bi, w_lrng, w_isi, w_call, w_cell, w_app, w_pop, w_popAt, w_esN, w_es, w_asN, w_as, w_oN, w_o, w_ifN, w_if, w_tgN, w_tgT, w_tgS, w_tgsN, w_tgs, w_itV, w_it1, w_it2, w_itE, w_itZ, w_asg, w_par, w_expr, w_ret, w_sife, w_stsN, w_sts1, w_brk, w_cnt, w_pass, w_leave, w_leaveN, w_leaveD, ends_ret, w_bind, w_noX, keep_dat, keep_ref, keep_newL, keep_newD, tgsLen, seqOf, exists_eq_left', exists_eq_left, exists_eq', exists_and_left, exists_const, Option.some.injEq, Option.map_some, Option.bind_some, List.getElem?_cons_zero, List.getElem?_cons_succ, List.set_cons_zero, List.set_cons_succ, List.any_cons, List.any_nil, List.map_cons, List.map_nil, List.cons_append, List.nil_append, List.length_cons, List.length_nil, PyData.int.injEq, PyData.bool.injEq, PyData.str.injEq, PyData.list.injEq, PyData.tuple.injEq, D.dat.injEq, Cell.lst.injEq, List.cons.injEq, Bool.not_true, Bool.not_false, Bool.or_false, Bool.or_true, Bool.false_or, Bool.true_or, Bool.and_true, Bool.true_and, Bool.and_false, Bool.false_and, decide_true, decide_false, decide_eq_true_eq, decide_eq_false_iff_not, true_and, and_true, false_and, and_false, Bool.false_eq_true, Bool.true_eq_false, reduceCtorEq, if_true, if_false, ite_true, ite_false, true_implies, false_implies, implies_true, forall_const, forall_eq', forall_eq, id, Bool.not_eq_true', Bool.not_eq_false', wipeE, Nat.zero_le, lim_of, lim_lt, o_addI, o_subI, o_mul, o_fdiv, o_modI, o_pow, o_addT, o_addL, o_ltI, o_leI, o_gtI, o_geI, o_eqI, o_neI, o_isN, o_notN, o_eqB, o_neB, o_eqS, o_neS, o_lenL, o_lenT, o_abs, o_tupL, o_tupT, o_lisL, o_lisT, o_intI, o_intB, o_ix0, o_ix1, o_ix2, o_ix3, o_it0, o_it1, o_it2, o_it3, ixPl_of, take_self, take_set, get_set, set_set', List.length_set, Nat.reduceAdd, Nat.reduceSub, List.replicate_succ, List.replicate_zero, List.set_cons_zero, List.set_cons_succ, Int.reduceToNat, Int.toNat_one, Int.toNat_zero]
        refine kn' _ _ ?_
        have y0 := Int.emod_nonneg (x % 2147483647 * 48271 + 7919 * (a + 1) + 12345) (show (2147483629 : Int) ≠ 0 by decide)
        have y1 := Int.emod_lt_of_pos (x % 2147483647 * 48271 + 7919 * (a + 1) + 12345) (show (0 : Int) < 2147483629 by decide)
        revert y0 y1
        generalize (x % 2147483647 * 48271 + 7919 * (a + 1) + 12345) % 2147483629 = y
        intro y0 y1
        refine wp_cons fun K' kn' kr' => ?_
        simp (disch := omega) only [w_pure, w_ofO, w_guard, w_look, w_lookN, w_lookR, w_settle, w_settleN, w_settleD, w_asInt, w_asBool, w_refOf, w_cellAt, w_newCell, w_newCellD, w_looks0, w_looks, w_var, w_con, w_glob, w_bin, w_neg, w_cmp, w_chain, w_isin, w_and, w_or, w_not, w_ifx, w_tup, w_lst, w_emp, w_idx, w_slc, w_bi, w_lrng, w_isi, w_call, w_cell, w_app, w_pop, w_popAt, w_esN, w_es, w_asN, w_as, w_oN, w_o, w_ifN, w_if, w_tgN, w_tgT, w_tgS, w_tgsN, w_tgs, w_itV, w_it1, w_it2, w_itE, w_itZ, w_asg, w_par, w_expr, w_ret, w_sife, w_stsN, w_sts1, w_brk, w_cnt, w_pass, w_leave, w_leaveN, w_leaveD, ends_ret, w_bind, w_noX, keep_dat, keep_ref, keep_newL, keep_newD, tgsLen, seqOf, exists_eq_left', exists_eq_left, exists_eq', exists_and_left, exists_const, Option.some.injEq, Option.map_some, Option.bind_some, List.getElem?_cons_zero, List.getElem?_cons_succ, List.set_cons_zero, List.set_cons_succ, List.any_cons, List.any_nil, List.map_cons, List.map_nil, List.cons_append, List.nil_append, List.length_cons, List.length_nil, PyData.int.injEq, PyData.bool.injEq, PyData.str.injEq, PyData.list.injEq, PyData.tuple.injEq, D.dat.injEq, Cell.lst.injEq, List.cons.injEq, Bool.not_true, Bool.not_false, Bool.or_false, Bool.or_true, Bool.false_or, Bool.true_or, Bool.and_true, Bool.true_and, Bool.and_false, Bool.false_and, decide_true, decide_false, decide_eq_true_eq, decide_eq_false_iff_not, true_and, and_true, false_and, and_false, Bool.false_eq_true, Bool.true_eq_false, reduceCtorEq, if_true, if_false, ite_true, ite_false, true_implies, false_implies, implies_true, forall_const, forall_eq', forall_eq, id, Bool.not_eq_true', Bool.not_eq_false', wipeE, Nat.zero_le, lim_of, lim_lt, o_addI, o_subI, o_mul, o_fdiv, o_modI, o_pow, o_addT, o_addL, o_ltI, o_leI, o_gtI, o_geI, o_eqI, o_neI, o_isN, o_notN, o_eqB, o_neB, o_eqS, o_neS, o_lenL, o_lenT, o_abs, o_tupL, o_tupT, o_lisL, o_lisT, o_intI, o_intB, o_ix0, o_ix1, o_ix2, o_ix3, o_it0, o_it1, o_it2, o_it3, ixPl_of, take_self, take_set, get_set, set_set', List.length_set, Nat.reduceAdd, Nat.reduceSub, List.replicate_succ, List.replicate_zero, List.set_cons_zero, List.set_cons_succ, Int.reduceToNat, Int.toNat_one, Int.toNat_zero]
        refine kn' _ _ ?_
        have z0 := Int.emod_nonneg (y * (y + 40692)) (show (2147483587 : Int) ≠ 0 by decide)
        have z1 := Int.emod_lt_of_pos (y * (y + 40692)) (show (0 : Int) < 2147483587 by decide)
        revert z0 z1
        generalize y * (y + 40692) % 2147483587 = z
        intro z0 z1
        simp (disch := omega) only [w_pure, w_ofO, w_guard, w_look, w_lookN, w_lookR, w_settle, w_settleN, w_settleD, w_asInt, w_asBool, w_refOf, w_cellAt, w_newCell, w_newCellD, w_looks0, w_looks, w_var, w_con, w_glob, w_bin, w_neg, w_cmp, w_chain, w_isin, w_and, w_or, w_not, w_ifx, w_tup, w_lst, w_emp, w_idx, w_slc, w_bi, w_lrng, w_isi, w_call, w_cell, w_app, w_pop, w_popAt, w_esN, w_es, w_asN, w_as, w_oN, w_o, w_ifN, w_if, w_tgN, w_tgT, w_tgS, w_tgsN, w_tgs, w_itV, w_it1, w_it2, w_itE, w_itZ, w_asg, w_par, w_expr, w_ret, w_sife, w_stsN, w_sts1, w_brk, w_cnt, w_pass, w_leave, w_leaveN, w_leaveD, ends_ret, w_bind, w_noX, keep_dat, keep_ref, keep_newL, keep_newD, tgsLen, seqOf, exists_eq_left', exists_eq_left, exists_eq', exists_and_left, exists_const, Option.some.injEq, Option.map_some, Option.bind_some, List.getElem?_cons_zero, List.getElem?_cons_succ, List.set_cons_zero, List.set_cons_succ, List.any_cons, List.any_nil, List.map_cons, List.map_nil, List.cons_append, List.nil_append, List.length_cons, List.length_nil, PyData.int.injEq, PyData.bool.injEq, PyData.str.injEq, PyData.list.injEq, PyData.tuple.injEq, D.dat.injEq, Cell.lst.injEq, List.cons.injEq, Bool.not_true, Bool.not_false, Bool.or_false, Bool.or_true, Bool.false_or, Bool.true_or, Bool.and_true, Bool.true_and, Bool.and_false, Bool.false_and, decide_true, decide_false, decide_eq_true_eq, decide_eq_false_iff_not, true_and, and_true, false_and, and_false, Bool.false_eq_true, Bool.true_eq_false, reduceCtorEq, if_true, if_false, ite_true, ite_false, true_implies, false_implies, implies_true, forall_const, forall_eq', forall_eq, id, Bool.not_eq_true', Bool.not_eq_false', wipeE, Nat.zero_le, lim_of, lim_lt, o_addI, o_subI, o_mul, o_fdiv, o_modI, o_pow, o_addT, o_addL, o_ltI, o_leI, o_gtI, o_geI, o_eqI, o_neI, o_isN, o_notN, o_eqB, o_neB, o_eqS, o_neS, o_lenL, o_lenT, o_abs, o_tupL, o_tupT, o_lisL, o_lisT, o_intI, o_intB, o_ix0, o_ix1, o_ix2, o_ix3, o_it0, o_it1, o_it2, o_it3, ixPl_of, take_self, take_set, get_set, set_set', List.length_set, Nat.reduceAdd, Nat.reduceSub, List.replicate_succ, List.replicate_zero, List.set_cons_zero, List.set_cons_succ, Int.reduceToNat, Int.toNat_one, Int.toNat_zero]
        exact fin _ _ (Int.emod_nonneg _ (by omega)) (Int.emod_lt_of_pos _ h0) hb
      · refine wp_cons fun K' kn' kr' => ?_
        simp (disch := omega) only [w_pure, w_ofO, w_guard, w_look, w_lookN, w_lookR, w_settle, w_settleN, w_settleD, w_asInt, w_asBool, w_refOf, w_cellAt, w_newCell, w_newCellD, w_looks0, w_looks, w_var, w_con, w_glob, w_bin, w_neg, w_cmp, w_chain, w_isin, w_and, w_or, w_not, w_ifx, w_tup, w_lst, w_emp, w_idx, w_slc, w_bi, w_lrng, w_isi, w_call, w_cell, w_app, w_pop, w_popAt, w_esN, w_es, w_asN, w_as, w_oN, w_o, w_ifN, w_if, w_tgN, w_tgT, w_tgS, w_tgsN, w_tgs, w_itV, w_it1, w_it2, w_itE, w_itZ, w_asg, w_par, w_expr, w_ret, w_sife, w_stsN, w_sts1, w_brk, w_cnt, w_pass, w_leave, w_leaveN, w_leaveD, ends_ret, w_bind, w_noX, keep_dat, keep_ref, keep_newL, keep_newD, tgsLen, seqOf, exists_eq_left', exists_eq_left, exists_eq', exists_and_left, exists_const, Option.some.injEq, Option.map_some, Option.bind_some, List.getElem?_cons_zero, List.getElem?_cons_succ, List.set_cons_zero, List.set_cons_succ, List.any_cons, List.any_nil, List.map_cons, List.map_nil, List.cons_append, List.nil_append, List.length_cons, List.length_nil, PyData.int.injEq, PyData.bool.injEq, PyData.str.injEq, PyData.list.injEq, PyData.tuple.injEq, D.dat.injEq, Cell.lst.injEq, List.cons.injEq, Bool.not_true, Bool.not_false, Bool.or_false, Bool.or_true, Bool.false_or, Bool.true_or, Bool.and_true, Bool.true_and, Bool.and_false, Bool.false_and, decide_true, decide_false, decide_eq_true_eq, decide_eq_false_iff_not, true_and, and_true, false_and, and_false, Bool.false_eq_true, Bool.true_eq_false, reduceCtorEq, if_true, if_false, ite_true, ite_false, true_implies, false_implies, implies_true, forall_const, forall_eq', forall_eq, id, Bool.not_eq_true', Bool.not_eq_false', wipeE, Nat.zero_le, lim_of, lim_lt, o_addI, o_subI, o_mul, o_fdiv, o_modI, o_pow, o_addT, o_addL, o_ltI, o_leI, o_gtI, o_geI, o_eqI, o_neI, o_isN, o_notN, o_eqB, o_neB, o_eqS, o_neS, o_lenL, o_lenT, o_abs, o_tupL, o_tupT, o_lisL, o_lisT, o_intI, o_intB, o_ix0, o_ix1, o_ix2, o_ix3, o_it0, o_it1, o_it2, o_it3, ixPl_of, take_self, take_set, get_set, set_set', List.length_set, Nat.reduceAdd, Nat.reduceSub, List.replicate_succ, List.replicate_zero, List.set_cons_zero, List.set_cons_succ, Int.reduceToNat, Int.toNat_one, Int.toNat_zero]
        refine kn' _ _ ?_
        have y0 := Int.emod_nonneg (0 % 2147483647 * 48271 + 7919 * (a + 1) + 12345) (show (2147483629 : Int) ≠ 0 by decide)
        have y1 := Int.emod_lt_of_pos (0 % 2147483647 * 48271 + 7919 * (a + 1) + 12345) (show (0 : Int) < 2147483629 by decide)
        revert y0 y1
        generalize (0 % 2147483647 * 48271 + 7919 * (a + 1) + 12345) % 2147483629 = y
        intro y0 y1
        refine wp_cons fun K' kn' kr' => ?_
        simp (disch := omega) only [w_pure, w_ofO, w_guard, w_look, w_lookN, w_lookR, w_settle, w_settleN, w_settleD, w_asInt, w_asBool, w_refOf, w_cellAt, w_newCell, w_newCellD, w_looks0, w_looks, w_var, w_con, w_glob, w_bin, w_neg, w_cmp, w_chain, w_isin, w_and, w_or, w_not, w_ifx, w_tup, w_lst, w_emp, w_idx, w_slc, w_bi, w_lrng, w_isi, w_call, w_cell, w_app, w_pop, w_popAt, w_esN, w_es, w_asN, w_as, w_oN, w_o, w_ifN, w_if, w_tgN, w_tgT, w_tgS, w_tgsN, w_tgs, w_itV, w_it1, w_it2, w_itE, w_itZ, w_asg, w_par, w_expr, w_ret, w_sife, w_stsN, w_sts1, w_brk, w_cnt, w_pass, w_leave, w_leaveN, w_leaveD, ends_ret, w_bind, w_noX, keep_dat, keep_ref, keep_newL, keep_newD, tgsLen, seqOf, exists_eq_left', exists_eq_left, exists_eq', exists_and_left, exists_const, Option.some.injEq, Option.map_some, Option.bind_some, List.getElem?_cons_zero, List.getElem?_cons_succ, List.set_cons_zero, List.set_cons_succ, List.any_cons, List.any_nil, List.map_cons, List.map_nil, List.cons_append, List.nil_append, List.length_cons, List.length_nil, PyData.int.injEq, PyData.bool.injEq, PyData.str.injEq, PyData.list.injEq, PyData.tuple.injEq, D.dat.injEq, Cell.lst.injEq, List.cons.injEq, Bool.not_true, Bool.not_false, Bool.or_false, Bool.or_true, Bool.false_or, Bool.true_or, Bool.and_true, Bool.true_and, Bool.and_false, Bool.false_and, decide_true, decide_false, decide_eq_true_eq, decide_eq_false_iff_not, true_and, and_true, false_and, and_false, Bool.false_eq_true, Bool.true_eq_false, reduceCtorEq, if_true, if_false, ite_true, ite_false, true_implies, false_implies, implies_true, forall_const, forall_eq', forall_eq, id, Bool.not_eq_true', Bool.not_eq_false', wipeE, Nat.zero_le, lim_of, lim_lt, o_addI, o_subI, o_mul, o_fdiv, o_modI, o_pow, o_addT, o_addL, o_ltI, o_leI, o_gtI, o_geI, o_eqI, o_neI, o_isN, o_notN, o_eqB, o_neB, o_eqS, o_neS, o_lenL, o_lenT, o_abs, o_tupL, o_tupT, o_lisL, o_lisT, o_intI, o_intB, o_ix0, o_ix1, o_ix2, o_ix3, o_it0, o_it1, o_it2, o_it3, ixPl_of, take_self, take_set, get_set, set_set', List.length_set, Nat.reduceAdd, Nat.reduceSub, List.replicate_succ, List.replicate_zero, List.set_cons_zero, List.set_cons_succ, Int.reduceToNat, Int.toNat_one, Int.toNat_zero]
        refine kn' _ _ ?_
        have z0 := Int.emod_nonneg (y * (y + 40692)) (show (2147483587 : Int) ≠ 0 by decide)
        have z1 := Int.emod_lt_of_pos (y * (y + 40692)) (show (0 : Int) < 2147483587 by decide)
        revert z0 z1
        generalize y * (y + 40692) % 2147483587 = z
        intro z0 z1
        simp (disch := omega) only [w_pure, w_ofO, w_guard, w_look, w_lookN, w_lookR, w_settle, w_settleN, w_settleD, w_asInt, w_asBool, w_refOf, w_cellAt, w_newCell, w_newCellD, w_looks0, w_looks, w_var, w_con, w_glob, w_bin, w_neg, w_cmp, w_chain, w_isin, w_and, w_or, w_not, w_ifx, w_tup, w_lst, w_emp, w_idx, w_slc, w_bi, w_lrng, w_isi, w_call, w_cell, w_app, w_pop, w_popAt, w_esN, w_es, w_asN, w_as, w_oN, w_o, w_ifN, w_if, w_tgN, w_tgT, w_tgS, w_tgsN, w_tgs, w_itV, w_it1, w_it2, w_itE, w_itZ, w_asg, w_par, w_expr, w_ret, w_sife, w_stsN, w_sts1, w_brk, w_cnt, w_pass, w_leave, w_leaveN, w_leaveD, ends_ret, w_bind, w_noX, keep_dat, keep_ref, keep_newL, keep_newD, tgsLen, seqOf, exists_eq_left', exists_eq_left, exists_eq', exists_and_left, exists_const, Option.some.injEq, Option.map_some, Option.bind_some, List.getElem?_cons_zero, List.getElem?_cons_succ, List.set_cons_zero, List.set_cons_succ, List.any_cons, List.any_nil, List.map_cons, List.map_nil, List.cons_append, List.nil_append, List.length_cons, List.length_nil, PyData.int.injEq, PyData.bool.injEq, PyData.str.injEq, PyData.list.injEq, PyData.tuple.injEq, D.dat.injEq, Cell.lst.injEq, List.cons.injEq, Bool.not_true, Bool.not_false, Bool.or_false, Bool.or_true, Bool.false_or, Bool.true_or, Bool.and_true, Bool.true_and, Bool.and_false, Bool.false_and, decide_true, decide_false, decide_eq_true_eq, decide_eq_false_iff_not, true_and, and_true, false_and, and_false, Bool.false_eq_true, Bool.true_eq_false, reduceCtorEq, if_true, if_false, ite_true, ite_false, true_implies, false_implies, implies_true, forall_const, forall_eq', forall_eq, id, Bool.not_eq_true', Bool.not_eq_false', wipeE, Nat.zero_le, lim_of, lim_lt, o_addI, o_subI, o_mul, o_fdiv, o_modI, o_pow, o_addT, o_addL, o_ltI, o_leI, o_gtI, o_geI, o_eqI, o_neI, o_isN, o_notN, o_eqB, o_neB, o_eqS, o_neS, o_lenL, o_lenT, o_abs, o_tupL, o_tupT, o_lisL, o_lisT, o_intI, o_intB, o_ix0, o_ix1, o_ix2, o_ix3, o_it0, o_it1, o_it2, o_it3, ixPl_of, take_self, take_set, get_set, set_set', List.length_set, Nat.reduceAdd, Nat.reduceSub, List.replicate_succ, List.replicate_zero, List.set_cons_zero, List.set_cons_succ, Int.reduceToNat, Int.toNat_one, Int.toNat_zero]
        exact fin _ _ (Int.emod_nonneg _ (by omega)) (Int.emod_lt_of_pos _ h0) hb)
  refine while_inv (fun n ρ s => ∃ b c : Int, ρ = [some (.ref i), some (.dat (.int m)), none, none, none] ∧ s = st.set i (Cell.lst [.list (cs.map .int), .int (a + 1), .int b, .int c]) ∧ 0 ≤ b ∧ 0 ≤ c ∧ n = (cs.length - c).toNat)
    (m := (cs.length - c).toNat) (by show _ < w; omega) ⟨b, c, rfl, rfl, h4, h5, rfl⟩ ?_
  rintro n ρ1 s1 ⟨b, c, rfl, rfl, hb, hc, rfl⟩ K2 k2 _ _ _
  simp (disch := omega) only [w_pure, w_ofO, w_guard, w_look, w_lookN, w_lookR, w_settle, w_settleN, w_settleD, w_asInt, w_asBool, w_refOf, w_cellAt, w_newCell, w_newCellD, w_looks0, w_looks, w_var, w_con, w_glob, w_bin, w_neg, w_cmp, w_chain, w_isin, w_and, w_or, w_not, w_ifx, w_tup, w_lst, w_emp, w_idx, w_slc, w_bi, w_lrng, w_isi, w_call, w_cell, w_app, w_pop, w_popAt, w_esN, w_es, w_asN, w_as, w_oN, w_o, w_ifN, w_if, w_tgN, w_tgT, w_tgS, w_tgsN, w_tgs, w_itV, w_it1, w_it2, w_itE, w_itZ, w_asg, w_par, w_expr, w_ret, w_sife, w_stsN, w_sts1, w_brk, w_cnt, w_pass, w_leave, w_leaveN, w_leaveD, ends_ret, w_bind, w_noX, keep_dat, keep_ref, keep_newL, keep_newD, tgsLen, seqOf, exists_eq_left', exists_eq_left, exists_eq', exists_and_left, exists_const, Option.some.injEq, Option.map_some, Option.bind_some, List.getElem?_cons_zero, List.getElem?_cons_succ, List.set_cons_zero, List.set_cons_succ, List.any_cons, List.any_nil, List.map_cons, List.map_nil, List.cons_append, List.nil_append, List.length_cons, List.length_nil, PyData.int.injEq, PyData.bool.injEq, PyData.str.injEq, PyData.list.injEq, PyData.tuple.injEq, D.dat.injEq, Cell.lst.injEq, List.cons.injEq, Bool.not_true, Bool.not_false, Bool.or_false, Bool.or_true, Bool.false_or, Bool.true_or, Bool.and_true, Bool.true_and, Bool.and_false, Bool.false_and, decide_true, decide_false, decide_eq_true_eq, decide_eq_false_iff_not, true_and, and_true, false_and, and_false, Bool.false_eq_true, Bool.true_eq_false, reduceCtorEq, if_true, if_false, ite_true, ite_false, true_implies, false_implies, implies_true, forall_const, forall_eq', forall_eq, id, Bool.not_eq_true', Bool.not_eq_false', wipeE, Nat.zero_le, lim_of, lim_lt, o_addI, o_subI, o_mul, o_fdiv, o_modI, o_pow, o_addT, o_addL, o_ltI, o_leI, o_gtI, o_geI, o_eqI, o_neI, o_isN, o_notN, o_eqB, o_neB, o_eqS, o_neS, o_lenL, o_lenT, o_abs, o_tupL, o_tupT, o_lisL, o_lisT, o_intI, o_intB, o_ix0, o_ix1, o_ix2, o_ix3, o_it0, o_it1, o_it2, o_it3, ixPl_of, take_self, take_set, get_set, set_set', List.length_set, Nat.reduceAdd, Nat.reduceSub, List.replicate_succ, List.replicate_zero, List.set_cons_zero, List.set_cons_succ, Int.reduceToNat, Int.toNat_one, Int.toNat_zero, List.length_map]
  refine ⟨fun hb0 => ⟨fun hlt => ?_, fun hge => ?_⟩, fun hb0 => ?_⟩
  · refine wp_cons fun K kn kr => ?_
    simp (disch := omega) only [w_pure, w_ofO, w_guard, w_look, w_lookN, w_lookR, w_settle, w_settleN, w_settleD, w_asInt, w_asBool, w_refOf, w_cellAt, w_newCell, w_newCellD, w_looks0, w_looks, w_var, w_con, w_glob, w_bin, w_neg, w_cmp, w_chain, w_isin, w_and, w_or, w_not, w_ifx, w_tup, w_lst, w_emp, w_idx, w_slc, w_bi, w_lrng, w_isi, w_call, w_cell, w_app, w_pop, w_popAt, w_esN, w_es, w_asN, w_as, w_oN, w_o, w_ifN, w_if, w_tgN, w_tgT, w_tgS, w_tgsN, w_tgs, w_itV, w_it1, w_it2, w_itE, w_itZ, w_asg, w_par, w_expr, w_ret, w_sife, w_stsN, w_sts1, w_brk, w_cnt, w_pass, w_leave, w_leaveN, w_leaveD, ends_ret, w_bind, w_noX, keep_dat, keep_ref, keep_newL, keep_newD, tgsLen, seqOf, exists_eq_left', exists_eq_left, exists_eq', exists_and_left, exists_const, Option.some.injEq, Option.map_some, Option.bind_some, List.getElem?_cons_zero, List.getElem?_cons_succ, List.set_cons_zero, List.set_cons_succ, List.any_cons, List.any_nil, List.map_cons, List.map_nil, List.cons_append, List.nil_append, List.length_cons, List.length_nil, PyData.int.injEq, PyData.bool.injEq, PyData.str.injEq, PyData.list.injEq, PyData.tuple.injEq, D.dat.injEq, Cell.lst.injEq, List.cons.injEq, Bool.not_true, Bool.not_false, Bool.or_false, Bool.or_true, Bool.false_or, Bool.true_or, Bool.and_true, Bool.true_and, Bool.and_false, Bool.false_and, decide_true, decide_false, decide_eq_true_eq, decide_eq_false_iff_not, true_and, and_true, false_and, and_false, Bool.false_eq_true, Bool.true_eq_false, reduceCtorEq, if_true, if_false, ite_true, ite_false, true_implies, false_implies, implies_true, forall_const, forall_eq', forall_eq, id, Bool.not_eq_true', Bool.not_eq_false', wipeE, Nat.zero_le, lim_of, lim_lt, o_addI, o_subI, o_mul, o_fdiv, o_modI, o_pow, o_addT, o_addL, o_ltI, o_leI, o_gtI, o_geI, o_eqI, o_neI, o_isN, o_notN, o_eqB, o_neB, o_eqS, o_neS, o_lenL, o_lenT, o_abs, o_tupL, o_tupT, o_lisL, o_lisT, o_intI, o_intB, o_ix0, o_ix1, o_ix2, o_ix3, o_it0, o_it1, o_it2, o_it3, ixPl_of, take_self, take_set, get_set, set_set', List.length_set, Nat.reduceAdd, Nat.reduceSub, List.replicate_succ, List.replicate_zero, List.set_cons_zero, List.set_cons_succ, Int.reduceToNat, Int.toNat_one, Int.toNat_zero, o_get]
    refine ⟨fun _ => kn _ _ ?_, fun _ => kn _ _ ?_⟩
    · simp (disch := omega) only [w_pure, w_ofO, w_guard, w_look, w_lookN, w_lookR, w_settle, w_settleN, w_settleD, w_asInt, w_asBool, w_refOf, w_cellAt, w_newCell, w_newCellD, w_looks0, w_looks, w_var, w_con, w_glob, w_bin, w_neg, w_cmp, w_chain, w_isin, w_and, w_or, w_not, w_ifx, w_tup, w_lst, w_emp, w_idx, w_slc, w_bi, w_lrng, w_isi, w_call, w_cell, w_app, w_pop, w_popAt, w_esN, w_es, w_asN, w_as, w_oN, w_o, w_ifN, w_if, w_tgN, w_tgT, w_tgS, w_tgsN, w_tgs, w_itV, w_it1, w_it2, w_itE, w_itZ, w_asg, w_par, w_expr, w_ret, w_sife, w_stsN, w_sts1, w_brk, w_cnt, w_pass, w_leave, w_leaveN, w_leaveD, ends_ret, w_bind, w_noX, keep_dat, keep_ref, keep_newL, keep_newD, tgsLen, seqOf, exists_eq_left', exists_eq_left, exists_eq', exists_and_left, exists_const, Option.some.injEq, Option.map_some, Option.bind_some, List.getElem?_cons_zero, List.getElem?_cons_succ, List.set_cons_zero, List.set_cons_succ, List.any_cons, List.any_nil, List.map_cons, List.map_nil, List.cons_append, List.nil_append, List.length_cons, List.length_nil, PyData.int.injEq, PyData.bool.injEq, PyData.str.injEq, PyData.list.injEq, PyData.tuple.injEq, D.dat.injEq, Cell.lst.injEq, List.cons.injEq, Bool.not_true, Bool.not_false, Bool.or_false, Bool.or_true, Bool.false_or, Bool.true_or, Bool.and_true, Bool.true_and, Bool.and_false, Bool.false_and, decide_true, decide_false, decide_eq_true_eq, decide_eq_false_iff_not, true_and, and_true, false_and, and_false, Bool.false_eq_true, Bool.true_eq_false, reduceCtorEq, if_true, if_false, ite_true, ite_false, true_implies, false_implies, implies_true, forall_const, forall_eq', forall_eq, id, Bool.not_eq_true', Bool.not_eq_false', wipeE, Nat.zero_le, lim_of, lim_lt, o_addI, o_subI, o_mul, o_fdiv, o_modI, o_pow, o_addT, o_addL, o_ltI, o_leI, o_gtI, o_geI, o_eqI, o_neI, o_isN, o_notN, o_eqB, o_neB, o_eqS, o_neS, o_lenL, o_lenT, o_abs, o_tupL, o_tupT, o_lisL, o_lisT, o_intI, o_intB, o_ix0, o_ix1, o_ix2, o_ix3, o_it0, o_it1, o_it2, o_it3, ixPl_of, take_self, take_set, get_set, set_set', List.length_set, Nat.reduceAdd, Nat.reduceSub, List.replicate_succ, List.replicate_zero, List.set_cons_zero, List.set_cons_succ, Int.reduceToNat, Int.toNat_one, Int.toNat_zero]
      exact k2 (cs.length - (c + 1)).toNat _ _ (by omega) ⟨_, c + 1, rfl, rfl, by omega, by omega, rfl⟩
    · simp (disch := omega) only [w_pure, w_ofO, w_guard, w_look, w_lookN, w_lookR, w_settle, w_settleN, w_settleD, w_asInt, w_asBool, w_refOf, w_cellAt, w_newCell, w_newCellD, w_looks0, w_looks, w_var, w_con, w_glob, w_bin, w_neg, w_cmp, w_chain, w_isin, w_and, w_or, w_not, w_ifx, w_tup, w_lst, w_emp, w_idx, w_slc, w_bi, w_lrng, w_isi, w_call, w_cell, w_app, w_pop, w_popAt, w_esN, w_es, w_asN, w_as, w_oN, w_o, w_ifN, w_if, w_tgN, w_tgT, w_tgS, w_tgsN, w_tgs, w_itV, w_it1, w_it2, w_itE, w_itZ, w_asg, w_par, w_expr, w_ret, w_sife, w_stsN, w_sts1, w_brk, w_cnt, w_pass, w_leave, w_leaveN, w_leaveD, ends_ret, w_bind, w_noX, keep_dat, keep_ref, keep_newL, keep_newD, tgsLen, seqOf, exists_eq_left', exists_eq_left, exists_eq', exists_and_left, exists_const, Option.some.injEq, Option.map_some, Option.bind_some, List.getElem?_cons_zero, List.getElem?_cons_succ, List.set_cons_zero, List.set_cons_succ, List.any_cons, List.any_nil, List.map_cons, List.map_nil, List.cons_append, List.nil_append, List.length_cons, List.length_nil, PyData.int.injEq, PyData.bool.injEq, PyData.str.injEq, PyData.list.injEq, PyData.tuple.injEq, D.dat.injEq, Cell.lst.injEq, List.cons.injEq, Bool.not_true, Bool.not_false, Bool.or_false, Bool.or_true, Bool.false_or, Bool.true_or, Bool.and_true, Bool.true_and, Bool.and_false, Bool.false_and, decide_true, decide_false, decide_eq_true_eq, decide_eq_false_iff_not, true_and, and_true, false_and, and_false, Bool.false_eq_true, Bool.true_eq_false, reduceCtorEq, if_true, if_false, ite_true, ite_false, true_implies, false_implies, implies_true, forall_const, forall_eq', forall_eq, id, Bool.not_eq_true', Bool.not_eq_false', wipeE, Nat.zero_le, lim_of, lim_lt, o_addI, o_subI, o_mul, o_fdiv, o_modI, o_pow, o_addT, o_addL, o_ltI, o_leI, o_gtI, o_geI, o_eqI, o_neI, o_isN, o_notN, o_eqB, o_neB, o_eqS, o_neS, o_lenL, o_lenT, o_abs, o_tupL, o_tupT, o_lisL, o_lisT, o_intI, o_intB, o_ix0, o_ix1, o_ix2, o_ix3, o_it0, o_it1, o_it2, o_it3, ixPl_of, take_self, take_set, get_set, set_set', List.length_set, Nat.reduceAdd, Nat.reduceSub, List.replicate_succ, List.replicate_zero, List.set_cons_zero, List.set_cons_succ, Int.reduceToNat, Int.toNat_one, Int.toNat_zero]
      exact k2 (cs.length - (c + 1)).toNat _ _ (by omega) ⟨_, c + 1, rfl, rfl, hb, by omega, rfl⟩
  · exact rest b c hb hc
  · exact rest b c hb hc
end
end MP
end L0

section L1
set_option Elab.async false
set_option linter.all false
set_option maxRecDepth 100000
set_option autoImplicit false
set_option maxHeartbeats 1000000
/-! L1: perms. -/
namespace MP
open PySem
def d_is_perm (i_is_whole : Nat) : Def := ⟨"is_perm", ["thing"], ["thing", "one"],
  .cons (.ife (.or (.not (.isi (.var 0) [.tuple] false)) (.not (.chain .le .le (.con (.int 1)) (.bi .len (.cons (.var 0) .nil)) (.glob "MOST_PLACES" (.int 24))))) (.cons (.ret (.con (.bool false))) .nil) (.nil))
    (.cons (.ret (.and (.bi .all (.cons (.comp (.call i_is_whole (.cons (.var 1) .nil)) (.name 1) (.val (.var 0)) .none [("one", 1)]) .nil)) (.cmp .eq (.bi .sorted (.cons (.var 0) .nil)) (.lrng (.bi .len (.cons (.var 0) .nil)))))) .nil)⟩

def d_perm_times : Def := ⟨"perm_times", ["one", "other"], ["one", "other", "place"],
  .cons (.ret (.bi .tuple (.cons (.comp (.idx (.var 0) (.var 2)) (.name 2) (.val (.var 1)) .none [("place", 2)]) .nil))) .nil⟩

def d_law_perm (i_law_draw : Nat) : Def := ⟨"_law_perm", ["_law_feed_here", "_law_many"], ["_law_feed_here", "_law_many", "_law_left", "_law_found", "_law_k"],
  .cons (.asg (.name 2) (.cell (.lrng (.var 1))))
    (.cons (.asg (.name 3) (.cell (.lst (.nil))))
    (.cons (.for_ (.name 4) (.rng1 (.var 1)) (.cons (.expr (.app (.var 3) (.popAt (.var 2) (.call i_law_draw (.cons (.var 0) (.cons (.bi .len (.cons (.var 2) .nil)) .nil)))))) .nil))
    (.cons (.ret (.bi .tuple (.cons (.var 3) .nil))) .nil)))⟩

def d_law_is_perm : Def := ⟨"_law_is_perm", ["_law_thing"], ["_law_thing", "_law_one", "_law_k"],
  .cons (.ife (.or (.not (.isi (.var 0) [.tuple] false)) (.not (.chain .le .le (.con (.int 1)) (.bi .len (.cons (.var 0) .nil)) (.con (.int 24))))) (.cons (.ret (.con (.bool false))) .nil) (.nil))
    (.cons (.ife (.cmp .ne (.comp (.var 1) (.name 1) (.val (.var 0)) (.some (.or (.isi (.var 1) [.bool] false) (.not (.isi (.var 1) [.int] false)))) [("_law_one", 1)]) (.lst (.nil))) (.cons (.ret (.con (.bool false))) .nil) (.nil))
    (.cons (.ret (.cmp .eq (.comp (.var 2) (.name 2) (.rng1 (.bi .len (.cons (.var 0) .nil))) (.some (.isin true (.var 2) (.var 0))) [("_law_k", 2)]) (.lst (.nil)))) .nil))⟩

def d_law_bent (i_law_draw : Nat) : Def := ⟨"_law_bent", ["_law_feed_here", "_law_one"], ["_law_feed_here", "_law_one", "_law_at", "_law_other", "_law_some"],
  .cons (.asg (.name 2) (.call i_law_draw (.cons (.var 0) (.cons (.bi .len (.cons (.var 1) .nil)) .nil))))
    (.cons (.asg (.name 3) (.idx (.lst (.cons (.idx (.var 1) (.bin .sub (.var 2) (.con (.int 1)))) (.cons (.bi .len (.cons (.var 1) .nil)) (.cons (.neg (.con (.int 1))) (.cons (.con (.bool true)) (.cons (.con (.bool false)) (.cons (.con (.none)) (.cons (.con (.str "0")) .nil)))))))) (.call i_law_draw (.cons (.var 0) (.cons (.con (.int 7)) .nil)))))
    (.cons (.asg (.name 4) (.lst (.cons (.bin .add (.bin .add (.slc (.var 1) .none (.some (.var 2))) (.tup (.cons (.var 3) .nil))) (.slc (.var 1) (.some (.bin .add (.var 2) (.con (.int 1)))) .none)) (.cons (.bi .list (.cons (.var 1) .nil)) (.cons (.slc (.var 1) .none (.some (.neg (.con (.int 1))))) (.cons (.bin .add (.var 1) (.tup (.cons (.bi .len (.cons (.var 1) .nil)) .nil))) (.cons (.tup (.cons (.var 1) .nil)) (.cons (.bin .add (.var 1) (.var 1)) .nil))))))))
    (.cons (.ret (.idx (.var 4) (.call i_law_draw (.cons (.var 0) (.cons (.con (.int 6)) .nil))))) .nil)))⟩


def isPermB : PyData → Bool
  | .tuple xs => decide (1 ≤ xs.length) && decide (xs.length ≤ 24) && xs.all isWhole && (match allInts xs with
    | some ns => decide (isort ns = (List.range ns.length).map fun k : Nat => (k : Int))
    | none => false)
  | _ => false
theorem wholes : ∀ {xs : List PyData}, xs.all isWhole = true → ∃ ns : List Int, xs = ns.map .int
  | [], _ => ⟨[], rfl⟩
  | x :: xs, h => by
    rw [List.all_cons, Bool.and_eq_true] at h
    obtain ⟨ns, e⟩ := wholes h.2
    cases x <;> first | (cases h.1; done) | skip
    rename_i i
    exact ⟨i :: ns, by rw [e]; rfl⟩
section
variable {Xp : Exc → Store → Prop} {P : List Def} {w k f : Nat} {st : Store} {Q : D → Store → Prop}
theorem is_perm_ok {iw : Nat} (hf : P[f]? = some (d_is_perm iw)) (hi : P[iw]? = some d_is_whole) {d : PyData} (hd : ∀ xs, d = .tuple xs → xs.length ≤ 1000) (h : Q (.dat (.bool (isPermB d))) st) : wp Xp (callF P w (k + 2) f [.dat d]) st Q := by
  refine wp_call hf rfl ?_
  simp only [d_is_perm, List.map_cons, List.map_nil, List.length_cons, List.length_nil]
  refine wp_cons fun K kn kr => ?_
  by_cases ht : ∃ xs, d = .tuple xs
  · obtain ⟨xs, rfl⟩ := ht
    have hl := hd xs rfl
    simp (disch := omega) only [w_pure, w_ofO, w_guard, w_look, w_lookN, w_lookR, w_settle, w_settleN, w_settleD, w_asInt, w_asBool, w_refOf, w_cellAt, w_newCell, w_newCellD, w_looks0, w_looks, w_var, w_con, w_glob, w_bin, w_neg, w_cmp, w_chain, w_isin, w_and, w_or, w_not, w_ifx, w_tup, w_lst, w_emp, w_idx, w_slc, w_bi, w_lrng, w_isi, w_call, w_cell, w_app, w_pop, w_popAt, w_esN, w_es, w_asN, w_as, w_oN, w_o, w_ifN, w_if, w_tgN, w_tgT, w_tgS, w_tgsN, w_tgs, w_itV, w_it1, w_it2, w_itE, w_itZ, w_asg, w_par, w_expr, w_ret, w_sife, w_stsN, w_sts1, w_brk, w_cnt, w_pass, w_leave, w_leaveN, w_leaveD, ends_ret, w_bind, w_noX, keep_dat, keep_ref, keep_newL, keep_newD, tgsLen, seqOf, exists_eq_left', exists_eq_left, exists_eq', exists_and_left, exists_const, Option.some.injEq, Option.map_some, Option.bind_some, List.getElem?_cons_zero, List.getElem?_cons_succ, List.set_cons_zero, List.set_cons_succ, List.any_cons, List.any_nil, List.map_cons, List.map_nil, List.cons_append, List.nil_append, List.length_cons, List.length_nil, PyData.int.injEq, PyData.bool.injEq, PyData.str.injEq, PyData.list.injEq, PyData.tuple.injEq, D.dat.injEq, Cell.lst.injEq, List.cons.injEq, Bool.not_true, Bool.not_false, Bool.or_false, Bool.or_true, Bool.false_or, Bool.true_or, Bool.and_true, Bool.true_and, Bool.and_false, Bool.false_and, decide_true, decide_false, decide_eq_true_eq, decide_eq_false_iff_not, true_and, and_true, false_and, and_false, Bool.false_eq_true, Bool.true_eq_false, reduceCtorEq, if_true, if_false, ite_true, ite_false, true_implies, false_implies, implies_true, forall_const, forall_eq', forall_eq, id, Bool.not_eq_true', Bool.not_eq_false', wipeE, Nat.zero_le, lim_of, lim_lt, o_addI, o_subI, o_mul, o_fdiv, o_modI, o_pow, o_addT, o_addL, o_ltI, o_leI, o_gtI, o_geI, o_eqI, o_neI, o_isN, o_notN, o_eqB, o_neB, o_eqS, o_neS, o_lenL, o_lenT, o_abs, o_tupL, o_tupT, o_lisL, o_lisT, o_intI, o_intB, o_ix0, o_ix1, o_ix2, o_ix3, o_it0, o_it1, o_it2, o_it3, ixPl_of, take_self, take_set, get_set, set_set', List.length_set, Nat.reduceAdd, Nat.reduceSub, List.replicate_succ, List.replicate_zero, List.set_cons_zero, List.set_cons_succ, Int.reduceToNat, Int.toNat_one, Int.toNat_zero, isiV, tyOf]
    have no : ¬ (1 ≤ xs.length ∧ xs.length ≤ 24) → isPermB (.tuple xs) = false := fun z => by
      unfold isPermB
      by_cases z1 : 1 ≤ xs.length
      · have z2 : ¬ xs.length ≤ 24 := fun z2 => z ⟨z1, z2⟩
        simp [z1, z2]
      · simp [z1]
    refine ⟨fun h1 => ⟨fun h2 => kr _ _ ?_, fun h2 => kn _ _ ?_⟩, fun h1 => kr _ _ ?_⟩
    · simp (disch := omega) only [w_pure, w_ofO, w_guard, w_look, w_lookN, w_lookR, w_settle, w_settleN, w_settleD, w_asInt, w_asBool, w_refOf, w_cellAt, w_newCell, w_newCellD, w_looks0, w_looks, w_var, w_con, w_glob, w_bin, w_neg, w_cmp, w_chain, w_isin, w_and, w_or, w_not, w_ifx, w_tup, w_lst, w_emp, w_idx, w_slc, w_bi, w_lrng, w_isi, w_call, w_cell, w_app, w_pop, w_popAt, w_esN, w_es, w_asN, w_as, w_oN, w_o, w_ifN, w_if, w_tgN, w_tgT, w_tgS, w_tgsN, w_tgs, w_itV, w_it1, w_it2, w_itE, w_itZ, w_asg, w_par, w_expr, w_ret, w_sife, w_stsN, w_sts1, w_brk, w_cnt, w_pass, w_leave, w_leaveN, w_leaveD, ends_ret, w_bind, w_noX, keep_dat, keep_ref, keep_newL, keep_newD, tgsLen, seqOf, exists_eq_left', exists_eq_left, exists_eq', exists_and_left, exists_const, Option.some.injEq, Option.map_some, Option.bind_some, List.getElem?_cons_zero, List.getElem?_cons_succ, List.set_cons_zero, List.set_cons_succ, List.any_cons, List.any_nil, List.map_cons, List.map_nil, List.cons_append, List.nil_append, List.length_cons, List.length_nil, PyData.int.injEq, PyData.bool.injEq, PyData.str.injEq, PyData.list.injEq, PyData.tuple.injEq, D.dat.injEq, Cell.lst.injEq, List.cons.injEq, Bool.not_true, Bool.not_false, Bool.or_false, Bool.or_true, Bool.false_or, Bool.true_or, Bool.and_true, Bool.true_and, Bool.and_false, Bool.false_and, decide_true, decide_false, decide_eq_true_eq, decide_eq_false_iff_not, true_and, and_true, false_and, and_false, Bool.false_eq_true, Bool.true_eq_false, reduceCtorEq, if_true, if_false, ite_true, ite_false, true_implies, false_implies, implies_true, forall_const, forall_eq', forall_eq, id, Bool.not_eq_true', Bool.not_eq_false', wipeE, Nat.zero_le, lim_of, lim_lt, o_addI, o_subI, o_mul, o_fdiv, o_modI, o_pow, o_addT, o_addL, o_ltI, o_leI, o_gtI, o_geI, o_eqI, o_neI, o_isN, o_notN, o_eqB, o_neB, o_eqS, o_neS, o_lenL, o_lenT, o_abs, o_tupL, o_tupT, o_lisL, o_lisT, o_intI, o_intB, o_ix0, o_ix1, o_ix2, o_ix3, o_it0, o_it1, o_it2, o_it3, ixPl_of, take_self, take_set, get_set, set_set', List.length_set, Nat.reduceAdd, Nat.reduceSub, List.replicate_succ, List.replicate_zero, List.set_cons_zero, List.set_cons_succ, Int.reduceToNat, Int.toNat_one, Int.toNat_zero]
      rw [no (by omega)] at h
      exact h
    · simp (disch := omega) only [w_pure, w_ofO, w_guard, w_look, w_lookN, w_lookR, w_settle, w_settleN, w_settleD, w_asInt, w_asBool, w_refOf, w_cellAt, w_newCell, w_newCellD, w_looks0, w_looks, w_var, w_con, w_glob, w_bin, w_neg, w_cmp, w_chain, w_isin, w_and, w_or, w_not, w_ifx, w_tup, w_lst, w_emp, w_idx, w_slc, w_bi, w_lrng, w_isi, w_call, w_cell, w_app, w_pop, w_popAt, w_esN, w_es, w_asN, w_as, w_oN, w_o, w_ifN, w_if, w_tgN, w_tgT, w_tgS, w_tgsN, w_tgs, w_itV, w_it1, w_it2, w_itE, w_itZ, w_asg, w_par, w_expr, w_ret, w_sife, w_stsN, w_sts1, w_brk, w_cnt, w_pass, w_leave, w_leaveN, w_leaveD, ends_ret, w_bind, w_noX, keep_dat, keep_ref, keep_newL, keep_newD, tgsLen, seqOf, exists_eq_left', exists_eq_left, exists_eq', exists_and_left, exists_const, Option.some.injEq, Option.map_some, Option.bind_some, List.getElem?_cons_zero, List.getElem?_cons_succ, List.set_cons_zero, List.set_cons_succ, List.any_cons, List.any_nil, List.map_cons, List.map_nil, List.cons_append, List.nil_append, List.length_cons, List.length_nil, PyData.int.injEq, PyData.bool.injEq, PyData.str.injEq, PyData.list.injEq, PyData.tuple.injEq, D.dat.injEq, Cell.lst.injEq, List.cons.injEq, Bool.not_true, Bool.not_false, Bool.or_false, Bool.or_true, Bool.false_or, Bool.true_or, Bool.and_true, Bool.true_and, Bool.and_false, Bool.false_and, decide_true, decide_false, decide_eq_true_eq, decide_eq_false_iff_not, true_and, and_true, false_and, and_false, Bool.false_eq_true, Bool.true_eq_false, reduceCtorEq, if_true, if_false, ite_true, ite_false, true_implies, false_implies, implies_true, forall_const, forall_eq', forall_eq, id, Bool.not_eq_true', Bool.not_eq_false', wipeE, Nat.zero_le, lim_of, lim_lt, o_addI, o_subI, o_mul, o_fdiv, o_modI, o_pow, o_addT, o_addL, o_ltI, o_leI, o_gtI, o_geI, o_eqI, o_neI, o_isN, o_notN, o_eqB, o_neB, o_eqS, o_neS, o_lenL, o_lenT, o_abs, o_tupL, o_tupT, o_lisL, o_lisT, o_intI, o_intB, o_ix0, o_ix1, o_ix2, o_ix3, o_it0, o_it1, o_it2, o_it3, ixPl_of, take_self, take_set, get_set, set_set', List.length_set, Nat.reduceAdd, Nat.reduceSub, List.replicate_succ, List.replicate_zero, List.set_cons_zero, List.set_cons_succ, Int.reduceToNat, Int.toNat_one, Int.toNat_zero]
      rw [w_comp]
      simp (disch := omega) only [w_pure, w_ofO, w_guard, w_look, w_lookN, w_lookR, w_settle, w_settleN, w_settleD, w_asInt, w_asBool, w_refOf, w_cellAt, w_newCell, w_newCellD, w_looks0, w_looks, w_var, w_con, w_glob, w_bin, w_neg, w_cmp, w_chain, w_isin, w_and, w_or, w_not, w_ifx, w_tup, w_lst, w_emp, w_idx, w_slc, w_bi, w_lrng, w_isi, w_call, w_cell, w_app, w_pop, w_popAt, w_esN, w_es, w_asN, w_as, w_oN, w_o, w_ifN, w_if, w_tgN, w_tgT, w_tgS, w_tgsN, w_tgs, w_itV, w_it1, w_it2, w_itE, w_itZ, w_asg, w_par, w_expr, w_ret, w_sife, w_stsN, w_sts1, w_brk, w_cnt, w_pass, w_leave, w_leaveN, w_leaveD, ends_ret, w_bind, w_noX, keep_dat, keep_ref, keep_newL, keep_newD, tgsLen, seqOf, exists_eq_left', exists_eq_left, exists_eq', exists_and_left, exists_const, Option.some.injEq, Option.map_some, Option.bind_some, List.getElem?_cons_zero, List.getElem?_cons_succ, List.set_cons_zero, List.set_cons_succ, List.any_cons, List.any_nil, List.map_cons, List.map_nil, List.cons_append, List.nil_append, List.length_cons, List.length_nil, PyData.int.injEq, PyData.bool.injEq, PyData.str.injEq, PyData.list.injEq, PyData.tuple.injEq, D.dat.injEq, Cell.lst.injEq, List.cons.injEq, Bool.not_true, Bool.not_false, Bool.or_false, Bool.or_true, Bool.false_or, Bool.true_or, Bool.and_true, Bool.true_and, Bool.and_false, Bool.false_and, decide_true, decide_false, decide_eq_true_eq, decide_eq_false_iff_not, true_and, and_true, false_and, and_false, Bool.false_eq_true, Bool.true_eq_false, reduceCtorEq, if_true, if_false, ite_true, ite_false, true_implies, false_implies, implies_true, forall_const, forall_eq', forall_eq, id, Bool.not_eq_true', Bool.not_eq_false', wipeE, Nat.zero_le, lim_of, lim_lt, o_addI, o_subI, o_mul, o_fdiv, o_modI, o_pow, o_addT, o_addL, o_ltI, o_leI, o_gtI, o_geI, o_eqI, o_neI, o_isN, o_notN, o_eqB, o_neB, o_eqS, o_neS, o_lenL, o_lenT, o_abs, o_tupL, o_tupT, o_lisL, o_lisT, o_intI, o_intB, o_ix0, o_ix1, o_ix2, o_ix3, o_it0, o_it1, o_it2, o_it3, ixPl_of, take_self, take_set, get_set, set_set', List.length_set, Nat.reduceAdd, Nat.reduceSub, List.replicate_succ, List.replicate_zero, List.set_cons_zero, List.set_cons_succ, Int.reduceToNat, Int.toNat_one, Int.toNat_zero]
      refine lc_pure (f := fun x => some (.bool (isWhole x))) (fun x hx R hR => ?_) (by rw [List.length_nil, LIM]; omega) ?_
      · rw [w_noX]
        simp (disch := omega) only [w_pure, w_ofO, w_guard, w_look, w_lookN, w_lookR, w_settle, w_settleN, w_settleD, w_asInt, w_asBool, w_refOf, w_cellAt, w_newCell, w_newCellD, w_looks0, w_looks, w_var, w_con, w_glob, w_bin, w_neg, w_cmp, w_chain, w_isin, w_and, w_or, w_not, w_ifx, w_tup, w_lst, w_emp, w_idx, w_slc, w_bi, w_lrng, w_isi, w_call, w_cell, w_app, w_pop, w_popAt, w_esN, w_es, w_asN, w_as, w_oN, w_o, w_ifN, w_if, w_tgN, w_tgT, w_tgS, w_tgsN, w_tgs, w_itV, w_it1, w_it2, w_itE, w_itZ, w_asg, w_par, w_expr, w_ret, w_sife, w_stsN, w_sts1, w_brk, w_cnt, w_pass, w_leave, w_leaveN, w_leaveD, ends_ret, w_bind, w_noX, keep_dat, keep_ref, keep_newL, keep_newD, tgsLen, seqOf, exists_eq_left', exists_eq_left, exists_eq', exists_and_left, exists_const, Option.some.injEq, Option.map_some, Option.bind_some, List.getElem?_cons_zero, List.getElem?_cons_succ, List.set_cons_zero, List.set_cons_succ, List.any_cons, List.any_nil, List.map_cons, List.map_nil, List.cons_append, List.nil_append, List.length_cons, List.length_nil, PyData.int.injEq, PyData.bool.injEq, PyData.str.injEq, PyData.list.injEq, PyData.tuple.injEq, D.dat.injEq, Cell.lst.injEq, List.cons.injEq, Bool.not_true, Bool.not_false, Bool.or_false, Bool.or_true, Bool.false_or, Bool.true_or, Bool.and_true, Bool.true_and, Bool.and_false, Bool.false_and, decide_true, decide_false, decide_eq_true_eq, decide_eq_false_iff_not, true_and, and_true, false_and, and_false, Bool.false_eq_true, Bool.true_eq_false, reduceCtorEq, if_true, if_false, ite_true, ite_false, true_implies, false_implies, implies_true, forall_const, forall_eq', forall_eq, id, Bool.not_eq_true', Bool.not_eq_false', wipeE, Nat.zero_le, lim_of, lim_lt, o_addI, o_subI, o_mul, o_fdiv, o_modI, o_pow, o_addT, o_addL, o_ltI, o_leI, o_gtI, o_geI, o_eqI, o_neI, o_isN, o_notN, o_eqB, o_neB, o_eqS, o_neS, o_lenL, o_lenT, o_abs, o_tupL, o_tupT, o_lisL, o_lisT, o_intI, o_intB, o_ix0, o_ix1, o_ix2, o_ix3, o_it0, o_it1, o_it2, o_it3, ixPl_of, take_self, take_set, get_set, set_set', List.length_set, Nat.reduceAdd, Nat.reduceSub, List.replicate_succ, List.replicate_zero, List.set_cons_zero, List.set_cons_succ, Int.reduceToNat, Int.toNat_one, Int.toNat_zero]
        refine is_whole_ok hi ?_
        simp (disch := omega) only [w_pure, w_ofO, w_guard, w_look, w_lookN, w_lookR, w_settle, w_settleN, w_settleD, w_asInt, w_asBool, w_refOf, w_cellAt, w_newCell, w_newCellD, w_looks0, w_looks, w_var, w_con, w_glob, w_bin, w_neg, w_cmp, w_chain, w_isin, w_and, w_or, w_not, w_ifx, w_tup, w_lst, w_emp, w_idx, w_slc, w_bi, w_lrng, w_isi, w_call, w_cell, w_app, w_pop, w_popAt, w_esN, w_es, w_asN, w_as, w_oN, w_o, w_ifN, w_if, w_tgN, w_tgT, w_tgS, w_tgsN, w_tgs, w_itV, w_it1, w_it2, w_itE, w_itZ, w_asg, w_par, w_expr, w_ret, w_sife, w_stsN, w_sts1, w_brk, w_cnt, w_pass, w_leave, w_leaveN, w_leaveD, ends_ret, w_bind, w_noX, keep_dat, keep_ref, keep_newL, keep_newD, tgsLen, seqOf, exists_eq_left', exists_eq_left, exists_eq', exists_and_left, exists_const, Option.some.injEq, Option.map_some, Option.bind_some, List.getElem?_cons_zero, List.getElem?_cons_succ, List.set_cons_zero, List.set_cons_succ, List.any_cons, List.any_nil, List.map_cons, List.map_nil, List.cons_append, List.nil_append, List.length_cons, List.length_nil, PyData.int.injEq, PyData.bool.injEq, PyData.str.injEq, PyData.list.injEq, PyData.tuple.injEq, D.dat.injEq, Cell.lst.injEq, List.cons.injEq, Bool.not_true, Bool.not_false, Bool.or_false, Bool.or_true, Bool.false_or, Bool.true_or, Bool.and_true, Bool.true_and, Bool.and_false, Bool.false_and, decide_true, decide_false, decide_eq_true_eq, decide_eq_false_iff_not, true_and, and_true, false_and, and_false, Bool.false_eq_true, Bool.true_eq_false, reduceCtorEq, if_true, if_false, ite_true, ite_false, true_implies, false_implies, implies_true, forall_const, forall_eq', forall_eq, id, Bool.not_eq_true', Bool.not_eq_false', wipeE, Nat.zero_le, lim_of, lim_lt, o_addI, o_subI, o_mul, o_fdiv, o_modI, o_pow, o_addT, o_addL, o_ltI, o_leI, o_gtI, o_geI, o_eqI, o_neI, o_isN, o_notN, o_eqB, o_neB, o_eqS, o_neS, o_lenL, o_lenT, o_abs, o_tupL, o_tupT, o_lisL, o_lisT, o_intI, o_intB, o_ix0, o_ix1, o_ix2, o_ix3, o_it0, o_it1, o_it2, o_it3, ixPl_of, take_self, take_set, get_set, set_set', List.length_set, Nat.reduceAdd, Nat.reduceSub, List.replicate_succ, List.replicate_zero, List.set_cons_zero, List.set_cons_succ, Int.reduceToNat, Int.toNat_one, Int.toNat_zero]
        exact hR
      · have e : [] ++ xs.filterMap (fun x => some (PyData.bool (isWhole x))) = (xs.map isWhole).map .bool := by
          simp [List.filterMap_eq_map']
        rw [e]
        simp (disch := omega) only [w_pure, w_ofO, w_guard, w_look, w_lookN, w_lookR, w_settle, w_settleN, w_settleD, w_asInt, w_asBool, w_refOf, w_cellAt, w_newCell, w_newCellD, w_looks0, w_looks, w_var, w_con, w_glob, w_bin, w_neg, w_cmp, w_chain, w_isin, w_and, w_or, w_not, w_ifx, w_tup, w_lst, w_emp, w_idx, w_slc, w_bi, w_lrng, w_isi, w_call, w_cell, w_app, w_pop, w_popAt, w_esN, w_es, w_asN, w_as, w_oN, w_o, w_ifN, w_if, w_tgN, w_tgT, w_tgS, w_tgsN, w_tgs, w_itV, w_it1, w_it2, w_itE, w_itZ, w_asg, w_par, w_expr, w_ret, w_sife, w_stsN, w_sts1, w_brk, w_cnt, w_pass, w_leave, w_leaveN, w_leaveD, ends_ret, w_bind, w_noX, keep_dat, keep_ref, keep_newL, keep_newD, tgsLen, seqOf, exists_eq_left', exists_eq_left, exists_eq', exists_and_left, exists_const, Option.some.injEq, Option.map_some, Option.bind_some, List.getElem?_cons_zero, List.getElem?_cons_succ, List.set_cons_zero, List.set_cons_succ, List.any_cons, List.any_nil, List.map_cons, List.map_nil, List.cons_append, List.nil_append, List.length_cons, List.length_nil, PyData.int.injEq, PyData.bool.injEq, PyData.str.injEq, PyData.list.injEq, PyData.tuple.injEq, D.dat.injEq, Cell.lst.injEq, List.cons.injEq, Bool.not_true, Bool.not_false, Bool.or_false, Bool.or_true, Bool.false_or, Bool.true_or, Bool.and_true, Bool.true_and, Bool.and_false, Bool.false_and, decide_true, decide_false, decide_eq_true_eq, decide_eq_false_iff_not, true_and, and_true, false_and, and_false, Bool.false_eq_true, Bool.true_eq_false, reduceCtorEq, if_true, if_false, ite_true, ite_false, true_implies, false_implies, implies_true, forall_const, forall_eq', forall_eq, id, Bool.not_eq_true', Bool.not_eq_false', wipeE, Nat.zero_le, lim_of, lim_lt, o_addI, o_subI, o_mul, o_fdiv, o_modI, o_pow, o_addT, o_addL, o_ltI, o_leI, o_gtI, o_geI, o_eqI, o_neI, o_isN, o_notN, o_eqB, o_neB, o_eqS, o_neS, o_lenL, o_lenT, o_abs, o_tupL, o_tupT, o_lisL, o_lisT, o_intI, o_intB, o_ix0, o_ix1, o_ix2, o_ix3, o_it0, o_it1, o_it2, o_it3, ixPl_of, take_self, take_set, get_set, set_set', List.length_set, Nat.reduceAdd, Nat.reduceSub, List.replicate_succ, List.replicate_zero, List.set_cons_zero, List.set_cons_succ, Int.reduceToNat, Int.toNat_one, Int.toNat_zero, o_all (allBools_map _)]
        refine ⟨fun h3 => ?_, fun h3 => ?_⟩
        · have h3' : xs.all isWhole = true := by simpa using h3
          obtain ⟨ns, rfl⟩ := wholes h3'
          have hn : ns.length ≤ 24 := by rw [List.length_map] at h2; omega
          have e2 : isPermB (.tuple (ns.map .int)) = decide (isort ns = (List.range ns.length).map fun k : Nat => (k : Int)) := by
            rw [List.length_map] at h1 h2
            simp only [isPermB, h3', allInts_map, List.length_map, decide_eq_true (show 1 ≤ ns.length by omega), decide_eq_true hn, Bool.and_true, Bool.true_and]
          rw [e2] at h
          simp (disch := omega) only [w_pure, w_ofO, w_guard, w_look, w_lookN, w_lookR, w_settle, w_settleN, w_settleD, w_asInt, w_asBool, w_refOf, w_cellAt, w_newCell, w_newCellD, w_looks0, w_looks, w_var, w_con, w_glob, w_bin, w_neg, w_cmp, w_chain, w_isin, w_and, w_or, w_not, w_ifx, w_tup, w_lst, w_emp, w_idx, w_slc, w_bi, w_lrng, w_isi, w_call, w_cell, w_app, w_pop, w_popAt, w_esN, w_es, w_asN, w_as, w_oN, w_o, w_ifN, w_if, w_tgN, w_tgT, w_tgS, w_tgsN, w_tgs, w_itV, w_it1, w_it2, w_itE, w_itZ, w_asg, w_par, w_expr, w_ret, w_sife, w_stsN, w_sts1, w_brk, w_cnt, w_pass, w_leave, w_leaveN, w_leaveD, ends_ret, w_bind, w_noX, keep_dat, keep_ref, keep_newL, keep_newD, tgsLen, seqOf, exists_eq_left', exists_eq_left, exists_eq', exists_and_left, exists_const, Option.some.injEq, Option.map_some, Option.bind_some, List.getElem?_cons_zero, List.getElem?_cons_succ, List.set_cons_zero, List.set_cons_succ, List.any_cons, List.any_nil, List.map_cons, List.map_nil, List.cons_append, List.nil_append, List.length_cons, List.length_nil, PyData.int.injEq, PyData.bool.injEq, PyData.str.injEq, PyData.list.injEq, PyData.tuple.injEq, D.dat.injEq, Cell.lst.injEq, List.cons.injEq, Bool.not_true, Bool.not_false, Bool.or_false, Bool.or_true, Bool.false_or, Bool.true_or, Bool.and_true, Bool.true_and, Bool.and_false, Bool.false_and, decide_true, decide_false, decide_eq_true_eq, decide_eq_false_iff_not, true_and, and_true, false_and, and_false, Bool.false_eq_true, Bool.true_eq_false, reduceCtorEq, if_true, if_false, ite_true, ite_false, true_implies, false_implies, implies_true, forall_const, forall_eq', forall_eq, id, Bool.not_eq_true', Bool.not_eq_false', wipeE, Nat.zero_le, lim_of, lim_lt, o_addI, o_subI, o_mul, o_fdiv, o_modI, o_pow, o_addT, o_addL, o_ltI, o_leI, o_gtI, o_geI, o_eqI, o_neI, o_isN, o_notN, o_eqB, o_neB, o_eqS, o_neS, o_lenL, o_lenT, o_abs, o_tupL, o_tupT, o_lisL, o_lisT, o_intI, o_intB, o_ix0, o_ix1, o_ix2, o_ix3, o_it0, o_it1, o_it2, o_it3, ixPl_of, take_self, take_set, get_set, set_set', List.length_set, Nat.reduceAdd, Nat.reduceSub, List.replicate_succ, List.replicate_zero, List.set_cons_zero, List.set_cons_succ, Int.reduceToNat, Int.toNat_one, Int.toNat_zero, o_sortT (allInts_map ns), List.length_map, Int.toNat_natCast, ints_zero, o_eqLI]
          exact ⟨by simp [small]; omega, h⟩
        · have e2 : isPermB (.tuple xs) = false := by
            have h3' : xs.all isWhole = false := by simpa using h3
            unfold isPermB
            simp only [h3', Bool.and_false, Bool.false_and]
          rw [e2] at h
          exact h
    · simp (disch := omega) only [w_pure, w_ofO, w_guard, w_look, w_lookN, w_lookR, w_settle, w_settleN, w_settleD, w_asInt, w_asBool, w_refOf, w_cellAt, w_newCell, w_newCellD, w_looks0, w_looks, w_var, w_con, w_glob, w_bin, w_neg, w_cmp, w_chain, w_isin, w_and, w_or, w_not, w_ifx, w_tup, w_lst, w_emp, w_idx, w_slc, w_bi, w_lrng, w_isi, w_call, w_cell, w_app, w_pop, w_popAt, w_esN, w_es, w_asN, w_as, w_oN, w_o, w_ifN, w_if, w_tgN, w_tgT, w_tgS, w_tgsN, w_tgs, w_itV, w_it1, w_it2, w_itE, w_itZ, w_asg, w_par, w_expr, w_ret, w_sife, w_stsN, w_sts1, w_brk, w_cnt, w_pass, w_leave, w_leaveN, w_leaveD, ends_ret, w_bind, w_noX, keep_dat, keep_ref, keep_newL, keep_newD, tgsLen, seqOf, exists_eq_left', exists_eq_left, exists_eq', exists_and_left, exists_const, Option.some.injEq, Option.map_some, Option.bind_some, List.getElem?_cons_zero, List.getElem?_cons_succ, List.set_cons_zero, List.set_cons_succ, List.any_cons, List.any_nil, List.map_cons, List.map_nil, List.cons_append, List.nil_append, List.length_cons, List.length_nil, PyData.int.injEq, PyData.bool.injEq, PyData.str.injEq, PyData.list.injEq, PyData.tuple.injEq, D.dat.injEq, Cell.lst.injEq, List.cons.injEq, Bool.not_true, Bool.not_false, Bool.or_false, Bool.or_true, Bool.false_or, Bool.true_or, Bool.and_true, Bool.true_and, Bool.and_false, Bool.false_and, decide_true, decide_false, decide_eq_true_eq, decide_eq_false_iff_not, true_and, and_true, false_and, and_false, Bool.false_eq_true, Bool.true_eq_false, reduceCtorEq, if_true, if_false, ite_true, ite_false, true_implies, false_implies, implies_true, forall_const, forall_eq', forall_eq, id, Bool.not_eq_true', Bool.not_eq_false', wipeE, Nat.zero_le, lim_of, lim_lt, o_addI, o_subI, o_mul, o_fdiv, o_modI, o_pow, o_addT, o_addL, o_ltI, o_leI, o_gtI, o_geI, o_eqI, o_neI, o_isN, o_notN, o_eqB, o_neB, o_eqS, o_neS, o_lenL, o_lenT, o_abs, o_tupL, o_tupT, o_lisL, o_lisT, o_intI, o_intB, o_ix0, o_ix1, o_ix2, o_ix3, o_it0, o_it1, o_it2, o_it3, ixPl_of, take_self, take_set, get_set, set_set', List.length_set, Nat.reduceAdd, Nat.reduceSub, List.replicate_succ, List.replicate_zero, List.set_cons_zero, List.set_cons_succ, Int.reduceToNat, Int.toNat_one, Int.toNat_zero]
      rw [no (by omega)] at h
      exact h
  · have e2 : isPermB d = false := by
      cases d <;> first | rfl | (exact (ht ⟨_, rfl⟩).elim)
    have e3 : isiV .tuple d = false := by
      cases d <;> first | rfl | (exact (ht ⟨_, rfl⟩).elim)
    simp (disch := omega) only [w_pure, w_ofO, w_guard, w_look, w_lookN, w_lookR, w_settle, w_settleN, w_settleD, w_asInt, w_asBool, w_refOf, w_cellAt, w_newCell, w_newCellD, w_looks0, w_looks, w_var, w_con, w_glob, w_bin, w_neg, w_cmp, w_chain, w_isin, w_and, w_or, w_not, w_ifx, w_tup, w_lst, w_emp, w_idx, w_slc, w_bi, w_lrng, w_isi, w_call, w_cell, w_app, w_pop, w_popAt, w_esN, w_es, w_asN, w_as, w_oN, w_o, w_ifN, w_if, w_tgN, w_tgT, w_tgS, w_tgsN, w_tgs, w_itV, w_it1, w_it2, w_itE, w_itZ, w_asg, w_par, w_expr, w_ret, w_sife, w_stsN, w_sts1, w_brk, w_cnt, w_pass, w_leave, w_leaveN, w_leaveD, ends_ret, w_bind, w_noX, keep_dat, keep_ref, keep_newL, keep_newD, tgsLen, seqOf, exists_eq_left', exists_eq_left, exists_eq', exists_and_left, exists_const, Option.some.injEq, Option.map_some, Option.bind_some, List.getElem?_cons_zero, List.getElem?_cons_succ, List.set_cons_zero, List.set_cons_succ, List.any_cons, List.any_nil, List.map_cons, List.map_nil, List.cons_append, List.nil_append, List.length_cons, List.length_nil, PyData.int.injEq, PyData.bool.injEq, PyData.str.injEq, PyData.list.injEq, PyData.tuple.injEq, D.dat.injEq, Cell.lst.injEq, List.cons.injEq, Bool.not_true, Bool.not_false, Bool.or_false, Bool.or_true, Bool.false_or, Bool.true_or, Bool.and_true, Bool.true_and, Bool.and_false, Bool.false_and, decide_true, decide_false, decide_eq_true_eq, decide_eq_false_iff_not, true_and, and_true, false_and, and_false, Bool.false_eq_true, Bool.true_eq_false, reduceCtorEq, if_true, if_false, ite_true, ite_false, true_implies, false_implies, implies_true, forall_const, forall_eq', forall_eq, id, Bool.not_eq_true', Bool.not_eq_false', wipeE, Nat.zero_le, lim_of, lim_lt, o_addI, o_subI, o_mul, o_fdiv, o_modI, o_pow, o_addT, o_addL, o_ltI, o_leI, o_gtI, o_geI, o_eqI, o_neI, o_isN, o_notN, o_eqB, o_neB, o_eqS, o_neS, o_lenL, o_lenT, o_abs, o_tupL, o_tupT, o_lisL, o_lisT, o_intI, o_intB, o_ix0, o_ix1, o_ix2, o_ix3, o_it0, o_it1, o_it2, o_it3, ixPl_of, take_self, take_set, get_set, set_set', List.length_set, Nat.reduceAdd, Nat.reduceSub, List.replicate_succ, List.replicate_zero, List.set_cons_zero, List.set_cons_succ, Int.reduceToNat, Int.toNat_one, Int.toNat_zero, e3]
    refine kr _ _ ?_
    simp (disch := omega) only [w_pure, w_ofO, w_guard, w_look, w_lookN, w_lookR, w_settle, w_settleN, w_settleD, w_asInt, w_asBool, w_refOf, w_cellAt, w_newCell, w_newCellD, w_looks0, w_looks, w_var, w_con, w_glob, w_bin, w_neg, w_cmp, w_chain, w_isin, w_and, w_or, w_not, w_ifx, w_tup, w_lst, w_emp, w_idx, w_slc, w_bi, w_lrng, w_isi, w_call, w_cell, w_app, w_pop, w_popAt, w_esN, w_es, w_asN, w_as, w_oN, w_o, w_ifN, w_if, w_tgN, w_tgT, w_tgS, w_tgsN, w_tgs, w_itV, w_it1, w_it2, w_itE, w_itZ, w_asg, w_par, w_expr, w_ret, w_sife, w_stsN, w_sts1, w_brk, w_cnt, w_pass, w_leave, w_leaveN, w_leaveD, ends_ret, w_bind, w_noX, keep_dat, keep_ref, keep_newL, keep_newD, tgsLen, seqOf, exists_eq_left', exists_eq_left, exists_eq', exists_and_left, exists_const, Option.some.injEq, Option.map_some, Option.bind_some, List.getElem?_cons_zero, List.getElem?_cons_succ, List.set_cons_zero, List.set_cons_succ, List.any_cons, List.any_nil, List.map_cons, List.map_nil, List.cons_append, List.nil_append, List.length_cons, List.length_nil, PyData.int.injEq, PyData.bool.injEq, PyData.str.injEq, PyData.list.injEq, PyData.tuple.injEq, D.dat.injEq, Cell.lst.injEq, List.cons.injEq, Bool.not_true, Bool.not_false, Bool.or_false, Bool.or_true, Bool.false_or, Bool.true_or, Bool.and_true, Bool.true_and, Bool.and_false, Bool.false_and, decide_true, decide_false, decide_eq_true_eq, decide_eq_false_iff_not, true_and, and_true, false_and, and_false, Bool.false_eq_true, Bool.true_eq_false, reduceCtorEq, if_true, if_false, ite_true, ite_false, true_implies, false_implies, implies_true, forall_const, forall_eq', forall_eq, id, Bool.not_eq_true', Bool.not_eq_false', wipeE, Nat.zero_le, lim_of, lim_lt, o_addI, o_subI, o_mul, o_fdiv, o_modI, o_pow, o_addT, o_addL, o_ltI, o_leI, o_gtI, o_geI, o_eqI, o_neI, o_isN, o_notN, o_eqB, o_neB, o_eqS, o_neS, o_lenL, o_lenT, o_abs, o_tupL, o_tupT, o_lisL, o_lisT, o_intI, o_intB, o_ix0, o_ix1, o_ix2, o_ix3, o_it0, o_it1, o_it2, o_it3, ixPl_of, take_self, take_set, get_set, set_set', List.length_set, Nat.reduceAdd, Nat.reduceSub, List.replicate_succ, List.replicate_zero, List.set_cons_zero, List.set_cons_succ, Int.reduceToNat, Int.toNat_one, Int.toNat_zero]
    rw [e2] at h
    exact h
theorem perm_times_ok (hf : P[f]? = some d_perm_times) {a b : List Int} (hl : a.length ≤ 1000) (hl2 : b.length ≤ 1000) (hb : ∀ x ∈ b, 0 ≤ x ∧ x < a.length) (h : Q (.dat (.tuple ((b.map fun x => a.getD x.toNat 0).map .int))) st) : wp Xp (callF P w (k + 1) f [.dat (.tuple (a.map .int)), .dat (.tuple (b.map .int))]) st Q := by
  refine wp_call hf rfl ?_
  simp only [d_perm_times, List.map_cons, List.map_nil, List.length_cons, List.length_nil]
  simp (disch := omega) only [w_pure, w_ofO, w_guard, w_look, w_lookN, w_lookR, w_settle, w_settleN, w_settleD, w_asInt, w_asBool, w_refOf, w_cellAt, w_newCell, w_newCellD, w_looks0, w_looks, w_var, w_con, w_glob, w_bin, w_neg, w_cmp, w_chain, w_isin, w_and, w_or, w_not, w_ifx, w_tup, w_lst, w_emp, w_idx, w_slc, w_bi, w_lrng, w_isi, w_call, w_cell, w_app, w_pop, w_popAt, w_esN, w_es, w_asN, w_as, w_oN, w_o, w_ifN, w_if, w_tgN, w_tgT, w_tgS, w_tgsN, w_tgs, w_itV, w_it1, w_it2, w_itE, w_itZ, w_asg, w_par, w_expr, w_ret, w_sife, w_stsN, w_sts1, w_brk, w_cnt, w_pass, w_leave, w_leaveN, w_leaveD, ends_ret, w_bind, w_noX, keep_dat, keep_ref, keep_newL, keep_newD, tgsLen, seqOf, exists_eq_left', exists_eq_left, exists_eq', exists_and_left, exists_const, Option.some.injEq, Option.map_some, Option.bind_some, List.getElem?_cons_zero, List.getElem?_cons_succ, List.set_cons_zero, List.set_cons_succ, List.any_cons, List.any_nil, List.map_cons, List.map_nil, List.cons_append, List.nil_append, List.length_cons, List.length_nil, PyData.int.injEq, PyData.bool.injEq, PyData.str.injEq, PyData.list.injEq, PyData.tuple.injEq, D.dat.injEq, Cell.lst.injEq, List.cons.injEq, Bool.not_true, Bool.not_false, Bool.or_false, Bool.or_true, Bool.false_or, Bool.true_or, Bool.and_true, Bool.true_and, Bool.and_false, Bool.false_and, decide_true, decide_false, decide_eq_true_eq, decide_eq_false_iff_not, true_and, and_true, false_and, and_false, Bool.false_eq_true, Bool.true_eq_false, reduceCtorEq, if_true, if_false, ite_true, ite_false, true_implies, false_implies, implies_true, forall_const, forall_eq', forall_eq, id, Bool.not_eq_true', Bool.not_eq_false', wipeE, Nat.zero_le, lim_of, lim_lt, o_addI, o_subI, o_mul, o_fdiv, o_modI, o_pow, o_addT, o_addL, o_ltI, o_leI, o_gtI, o_geI, o_eqI, o_neI, o_isN, o_notN, o_eqB, o_neB, o_eqS, o_neS, o_lenL, o_lenT, o_abs, o_tupL, o_tupT, o_lisL, o_lisT, o_intI, o_intB, o_ix0, o_ix1, o_ix2, o_ix3, o_it0, o_it1, o_it2, o_it3, ixPl_of, take_self, take_set, get_set, set_set', List.length_set, Nat.reduceAdd, Nat.reduceSub, List.replicate_succ, List.replicate_zero, List.set_cons_zero, List.set_cons_succ, Int.reduceToNat, Int.toNat_one, Int.toNat_zero]
  rw [w_comp]
  simp (disch := omega) only [w_pure, w_ofO, w_guard, w_look, w_lookN, w_lookR, w_settle, w_settleN, w_settleD, w_asInt, w_asBool, w_refOf, w_cellAt, w_newCell, w_newCellD, w_looks0, w_looks, w_var, w_con, w_glob, w_bin, w_neg, w_cmp, w_chain, w_isin, w_and, w_or, w_not, w_ifx, w_tup, w_lst, w_emp, w_idx, w_slc, w_bi, w_lrng, w_isi, w_call, w_cell, w_app, w_pop, w_popAt, w_esN, w_es, w_asN, w_as, w_oN, w_o, w_ifN, w_if, w_tgN, w_tgT, w_tgS, w_tgsN, w_tgs, w_itV, w_it1, w_it2, w_itE, w_itZ, w_asg, w_par, w_expr, w_ret, w_sife, w_stsN, w_sts1, w_brk, w_cnt, w_pass, w_leave, w_leaveN, w_leaveD, ends_ret, w_bind, w_noX, keep_dat, keep_ref, keep_newL, keep_newD, tgsLen, seqOf, exists_eq_left', exists_eq_left, exists_eq', exists_and_left, exists_const, Option.some.injEq, Option.map_some, Option.bind_some, List.getElem?_cons_zero, List.getElem?_cons_succ, List.set_cons_zero, List.set_cons_succ, List.any_cons, List.any_nil, List.map_cons, List.map_nil, List.cons_append, List.nil_append, List.length_cons, List.length_nil, PyData.int.injEq, PyData.bool.injEq, PyData.str.injEq, PyData.list.injEq, PyData.tuple.injEq, D.dat.injEq, Cell.lst.injEq, List.cons.injEq, Bool.not_true, Bool.not_false, Bool.or_false, Bool.or_true, Bool.false_or, Bool.true_or, Bool.and_true, Bool.true_and, Bool.and_false, Bool.false_and, decide_true, decide_false, decide_eq_true_eq, decide_eq_false_iff_not, true_and, and_true, false_and, and_false, Bool.false_eq_true, Bool.true_eq_false, reduceCtorEq, if_true, if_false, ite_true, ite_false, true_implies, false_implies, implies_true, forall_const, forall_eq', forall_eq, id, Bool.not_eq_true', Bool.not_eq_false', wipeE, Nat.zero_le, lim_of, lim_lt, o_addI, o_subI, o_mul, o_fdiv, o_modI, o_pow, o_addT, o_addL, o_ltI, o_leI, o_gtI, o_geI, o_eqI, o_neI, o_isN, o_notN, o_eqB, o_neB, o_eqS, o_neS, o_lenL, o_lenT, o_abs, o_tupL, o_tupT, o_lisL, o_lisT, o_intI, o_intB, o_ix0, o_ix1, o_ix2, o_ix3, o_it0, o_it1, o_it2, o_it3, ixPl_of, take_self, take_set, get_set, set_set', List.length_set, Nat.reduceAdd, Nat.reduceSub, List.replicate_succ, List.replicate_zero, List.set_cons_zero, List.set_cons_succ, Int.reduceToNat, Int.toNat_one, Int.toNat_zero]
  refine lc_pure (f := fun x => match x with
    | PyData.int i => some (PyData.int (a.getD i.toNat 0))
    | _ => none) (fun x hx R hR => ?_) (by rw [List.length_nil, List.length_map, LIM]; omega) ?_
  · obtain ⟨i, hi, rfl⟩ := List.mem_map.mp hx
    have hi' := hb i hi
    rw [w_noX]
    simp (disch := omega) only [w_pure, w_ofO, w_guard, w_look, w_lookN, w_lookR, w_settle, w_settleN, w_settleD, w_asInt, w_asBool, w_refOf, w_cellAt, w_newCell, w_newCellD, w_looks0, w_looks, w_var, w_con, w_glob, w_bin, w_neg, w_cmp, w_chain, w_isin, w_and, w_or, w_not, w_ifx, w_tup, w_lst, w_emp, w_idx, w_slc, w_bi, w_lrng, w_isi, w_call, w_cell, w_app, w_pop, w_popAt, w_esN, w_es, w_asN, w_as, w_oN, w_o, w_ifN, w_if, w_tgN, w_tgT, w_tgS, w_tgsN, w_tgs, w_itV, w_it1, w_it2, w_itE, w_itZ, w_asg, w_par, w_expr, w_ret, w_sife, w_stsN, w_sts1, w_brk, w_cnt, w_pass, w_leave, w_leaveN, w_leaveD, ends_ret, w_bind, w_noX, keep_dat, keep_ref, keep_newL, keep_newD, tgsLen, seqOf, exists_eq_left', exists_eq_left, exists_eq', exists_and_left, exists_const, Option.some.injEq, Option.map_some, Option.bind_some, List.getElem?_cons_zero, List.getElem?_cons_succ, List.set_cons_zero, List.set_cons_succ, List.any_cons, List.any_nil, List.map_cons, List.map_nil, List.cons_append, List.nil_append, List.length_cons, List.length_nil, PyData.int.injEq, PyData.bool.injEq, PyData.str.injEq, PyData.list.injEq, PyData.tuple.injEq, D.dat.injEq, Cell.lst.injEq, List.cons.injEq, Bool.not_true, Bool.not_false, Bool.or_false, Bool.or_true, Bool.false_or, Bool.true_or, Bool.and_true, Bool.true_and, Bool.and_false, Bool.false_and, decide_true, decide_false, decide_eq_true_eq, decide_eq_false_iff_not, true_and, and_true, false_and, and_false, Bool.false_eq_true, Bool.true_eq_false, reduceCtorEq, if_true, if_false, ite_true, ite_false, true_implies, false_implies, implies_true, forall_const, forall_eq', forall_eq, id, Bool.not_eq_true', Bool.not_eq_false', wipeE, Nat.zero_le, lim_of, lim_lt, o_addI, o_subI, o_mul, o_fdiv, o_modI, o_pow, o_addT, o_addL, o_ltI, o_leI, o_gtI, o_geI, o_eqI, o_neI, o_isN, o_notN, o_eqB, o_neB, o_eqS, o_neS, o_lenL, o_lenT, o_abs, o_tupL, o_tupT, o_lisL, o_lisT, o_intI, o_intB, o_ix0, o_ix1, o_ix2, o_ix3, o_it0, o_it1, o_it2, o_it3, ixPl_of, take_self, take_set, get_set, set_set', List.length_set, Nat.reduceAdd, Nat.reduceSub, List.replicate_succ, List.replicate_zero, List.set_cons_zero, List.set_cons_succ, Int.reduceToNat, Int.toNat_one, Int.toNat_zero, o_gett]
    exact hR
  · have e : [] ++ (b.map PyData.int).filterMap (fun x => match x with
      | PyData.int i => some (PyData.int (a.getD i.toNat 0))
      | _ => none) = (b.map fun x => a.getD x.toNat 0).map .int := by
      rw [List.nil_append, List.filterMap_map]
      simp [List.filterMap_eq_map', Function.comp_def]
    rw [e]
    simp (disch := omega) only [w_pure, w_ofO, w_guard, w_look, w_lookN, w_lookR, w_settle, w_settleN, w_settleD, w_asInt, w_asBool, w_refOf, w_cellAt, w_newCell, w_newCellD, w_looks0, w_looks, w_var, w_con, w_glob, w_bin, w_neg, w_cmp, w_chain, w_isin, w_and, w_or, w_not, w_ifx, w_tup, w_lst, w_emp, w_idx, w_slc, w_bi, w_lrng, w_isi, w_call, w_cell, w_app, w_pop, w_popAt, w_esN, w_es, w_asN, w_as, w_oN, w_o, w_ifN, w_if, w_tgN, w_tgT, w_tgS, w_tgsN, w_tgs, w_itV, w_it1, w_it2, w_itE, w_itZ, w_asg, w_par, w_expr, w_ret, w_sife, w_stsN, w_sts1, w_brk, w_cnt, w_pass, w_leave, w_leaveN, w_leaveD, ends_ret, w_bind, w_noX, keep_dat, keep_ref, keep_newL, keep_newD, tgsLen, seqOf, exists_eq_left', exists_eq_left, exists_eq', exists_and_left, exists_const, Option.some.injEq, Option.map_some, Option.bind_some, List.getElem?_cons_zero, List.getElem?_cons_succ, List.set_cons_zero, List.set_cons_succ, List.any_cons, List.any_nil, List.map_cons, List.map_nil, List.cons_append, List.nil_append, List.length_cons, List.length_nil, PyData.int.injEq, PyData.bool.injEq, PyData.str.injEq, PyData.list.injEq, PyData.tuple.injEq, D.dat.injEq, Cell.lst.injEq, List.cons.injEq, Bool.not_true, Bool.not_false, Bool.or_false, Bool.or_true, Bool.false_or, Bool.true_or, Bool.and_true, Bool.true_and, Bool.and_false, Bool.false_and, decide_true, decide_false, decide_eq_true_eq, decide_eq_false_iff_not, true_and, and_true, false_and, and_false, Bool.false_eq_true, Bool.true_eq_false, reduceCtorEq, if_true, if_false, ite_true, ite_false, true_implies, false_implies, implies_true, forall_const, forall_eq', forall_eq, id, Bool.not_eq_true', Bool.not_eq_false', wipeE, Nat.zero_le, lim_of, lim_lt, o_addI, o_subI, o_mul, o_fdiv, o_modI, o_pow, o_addT, o_addL, o_ltI, o_leI, o_gtI, o_geI, o_eqI, o_neI, o_isN, o_notN, o_eqB, o_neB, o_eqS, o_neS, o_lenL, o_lenT, o_abs, o_tupL, o_tupT, o_lisL, o_lisT, o_intI, o_intB, o_ix0, o_ix1, o_ix2, o_ix3, o_it0, o_it1, o_it2, o_it3, ixPl_of, take_self, take_set, get_set, set_set', List.length_set, Nat.reduceAdd, Nat.reduceSub, List.replicate_succ, List.replicate_zero, List.set_cons_zero, List.set_cons_succ, Int.reduceToNat, Int.toNat_one, Int.toNat_zero]
    exact h
end
end MP
end L1

section L2
set_option Elab.async false
set_option linter.all false
set_option maxRecDepth 100000
set_option autoImplicit false
set_option maxHeartbeats 1000000
/-! L2: perms by the law. -/
namespace MP
open PySem
theorem shalAll_mem {n : Nat} : ∀ {xs : List PyData}, shalAll n xs = true ↔ ∀ x ∈ xs, shal n x = true
  | [] => by simp [shalAll]
  | x :: xs => by rw [shalAll, Bool.and_eq_true, shalAll_mem]; simp
theorem eqvAll_nil : ∀ {xs : List PyData}, PyData.eqvAll xs [] = xs.isEmpty
  | [] => rfl
  | _ :: _ => rfl
theorem o_neNil {xs : List PyData} (h : shalAll 59 xs = true) : copV .ne (.list xs) (.list []) = some (!xs.isEmpty) := by
  simp [copV, cmpE, shal, h, PyData.eqv, eqvAll_nil, shalAll]
theorem o_eqNil {xs : List PyData} (h : shalAll 59 xs = true) : copV .eq (.list xs) (.list []) = some xs.isEmpty := by
  simp [copV, cmpE, shal, h, PyData.eqv, eqvAll_nil, shalAll]
theorem any_ints {k : Int} : ∀ {ns : List Int}, ((ns.map PyData.int).any fun y => PyData.eqv y (.int k)) = decide (k ∈ ns)
  | [] => rfl
  | n :: ns => by
    rw [List.map_cons, List.any_cons, any_ints, eqv_int]
    by_cases h : n = k
    · simp [h]
    · have h' : ¬ k = n := fun e => h e.symm
      by_cases h2 : k ∈ ns <;> simp [h, h', h2]
theorem o_inT {ns : List Int} {k : Int} : inV (.int k) (.tuple (ns.map .int)) = some (decide (k ∈ ns)) := by
  show (if shal 60 (.int k) && shalAll 60 (ns.map .int) then some _ else none) = _
  rw [shalAll_ints, any_ints]
  rfl
theorem o_inL {ns : List Int} {k : Int} : inV (.int k) (.list (ns.map .int)) = some (decide (k ∈ ns)) := o_inT
theorem nat_up : ∀ n : Nat, ((List.range n).map fun k : Nat => (k : Int)).Pairwise (· ≤ ·) := fun n => by
  rw [List.pairwise_map]
  exact (List.pairwise_lt_range (n := n)).imp fun h => by omega
theorem up_perm {a b : List Int} (ha : a.Pairwise (· ≤ ·)) (hb : b.Pairwise (· ≤ ·)) (h : a.Perm b) : a = b :=
  List.Perm.eq_of_pairwise (fun _ _ _ _ h1 h2 => Int.le_antisymm h1 h2) ha hb h
theorem nodup_nats (n : Nat) : ((List.range n).map fun k : Nat => (k : Int)).Nodup := by
  rw [List.Nodup, List.pairwise_map]
  exact (List.nodup_range (n := n)).imp fun h => by omega
theorem nodup_perm : ∀ {a b : List Int}, a.Nodup → (∀ x ∈ a, x ∈ b) → b.length ≤ a.length → a.Perm b
  | [], b, _, _, h => by
    rw [List.length_nil] at h
    rw [List.eq_nil_of_length_eq_zero (by omega : b.length = 0)]
  | x :: a, b, hn, hs, hl => by
    have hx := hs x (List.mem_cons_self ..)
    have hn' := List.nodup_cons.mp hn
    have e := List.perm_cons_erase hx
    have l := e.length_eq
    rw [List.length_cons] at l hl
    refine List.Perm.trans (List.Perm.cons x (nodup_perm hn'.2 (fun y hy => ?_) (by omega))) e.symm
    exact (List.mem_erase_of_ne (fun z => hn'.1 (by rw [← z]; exact hy))).mpr (hs y (List.mem_cons_of_mem _ hy))
theorem isort_is {ns : List Int} : isort ns = (List.range ns.length).map (fun k : Nat => (k : Int)) ↔ ∀ k : Nat, k < ns.length → (k : Int) ∈ ns := by
  constructor
  · intro e k hk
    refine (isort_perm ns).subset ?_
    rw [e]
    exact List.mem_map.mpr ⟨k, List.mem_range.mpr hk, rfl⟩
  · intro h
    refine up_perm (isort_up ns) (nat_up _) ((isort_perm ns).trans ?_)
    refine (nodup_perm (nodup_nats _) ?_ (by simp)).symm
    intro x hx
    obtain ⟨k, hk, rfl⟩ := List.mem_map.mp hx
    exact h k (List.mem_range.mp hk)
theorem fm_not {α : Type} {p : α → Bool} : ∀ xs : List α, xs.filterMap (fun x => if p x then none else some x) = xs.filter fun x => !p x
  | [] => rfl
  | x :: xs => by
    rw [List.filterMap_cons, List.filter_cons, fm_not xs]
    cases p x <;> simp
theorem fm_in {ns : List Int} : ∀ l : List Int, (l.map PyData.int).filterMap (fun x => match x with
    | PyData.int i => if i ∈ ns then none else some (PyData.int i)
    | _ => none) = (l.filter fun i => !decide (i ∈ ns)).map PyData.int
  | [] => rfl
  | x :: l => by
    rw [List.map_cons, List.filterMap_cons, List.filter_cons, fm_in l]
    by_cases h : x ∈ ns <;> simp [h]
section
variable {Xp : Exc → Store → Prop} {P : List Def} {w k f : Nat} {st : Store} {Q : D → Store → Prop}
theorem law_is_perm_ok (hf : P[f]? = some d_law_is_perm) {d : PyData} (hd : ∀ xs, d = .tuple xs → xs.length ≤ 1000 ∧ shalAll 59 xs = true) (h : Q (.dat (.bool (isPermB d))) st) : wp Xp (callF P w (k + 1) f [.dat d]) st Q := by
  refine wp_call hf rfl ?_
  simp only [d_law_is_perm, List.map_cons, List.map_nil, List.length_cons, List.length_nil]
  refine wp_cons fun K kn kr => ?_
  by_cases ht : ∃ xs, d = .tuple xs
  · obtain ⟨xs, rfl⟩ := ht
    obtain ⟨hl, hs⟩ := hd xs rfl
    simp (disch := omega) only [w_pure, w_ofO, w_guard, w_look, w_lookN, w_lookR, w_settle, w_settleN, w_settleD, w_asInt, w_asBool, w_refOf, w_cellAt, w_newCell, w_newCellD, w_looks0, w_looks, w_var, w_con, w_glob, w_bin, w_neg, w_cmp, w_chain, w_isin, w_and, w_or, w_not, w_ifx, w_tup, w_lst, w_emp, w_idx, w_slc, w_bi, w_lrng, w_isi, w_call, w_cell, w_app, w_pop, w_popAt, w_esN, w_es, w_asN, w_as, w_oN, w_o, w_ifN, w_if, w_tgN, w_tgT, w_tgS, w_tgsN, w_tgs, w_itV, w_it1, w_it2, w_itE, w_itZ, w_asg, w_par, w_expr, w_ret, w_sife, w_stsN, w_sts1, w_brk, w_cnt, w_pass, w_leave, w_leaveN, w_leaveD, ends_ret, w_bind, w_noX, keep_dat, keep_ref, keep_newL, keep_newD, tgsLen, seqOf, exists_eq_left', exists_eq_left, exists_eq', exists_and_left, exists_const, Option.some.injEq, Option.map_some, Option.bind_some, List.getElem?_cons_zero, List.getElem?_cons_succ, List.set_cons_zero, List.set_cons_succ, List.any_cons, List.any_nil, List.map_cons, List.map_nil, List.cons_append, List.nil_append, List.length_cons, List.length_nil, PyData.int.injEq, PyData.bool.injEq, PyData.str.injEq, PyData.list.injEq, PyData.tuple.injEq, D.dat.injEq, Cell.lst.injEq, List.cons.injEq, Bool.not_true, Bool.not_false, Bool.or_false, Bool.or_true, Bool.false_or, Bool.true_or, Bool.and_true, Bool.true_and, Bool.and_false, Bool.false_and, decide_true, decide_false, decide_eq_true_eq, decide_eq_false_iff_not, true_and, and_true, false_and, and_false, Bool.false_eq_true, Bool.true_eq_false, reduceCtorEq, if_true, if_false, ite_true, ite_false, true_implies, false_implies, implies_true, forall_const, forall_eq', forall_eq, id, Bool.not_eq_true', Bool.not_eq_false', wipeE, Nat.zero_le, lim_of, lim_lt, o_addI, o_subI, o_mul, o_fdiv, o_modI, o_pow, o_addT, o_addL, o_ltI, o_leI, o_gtI, o_geI, o_eqI, o_neI, o_isN, o_notN, o_eqB, o_neB, o_eqS, o_neS, o_lenL, o_lenT, o_abs, o_tupL, o_tupT, o_lisL, o_lisT, o_intI, o_intB, o_ix0, o_ix1, o_ix2, o_ix3, o_it0, o_it1, o_it2, o_it3, ixPl_of, take_self, take_set, get_set, set_set', List.length_set, Nat.reduceAdd, Nat.reduceSub, List.replicate_succ, List.replicate_zero, List.set_cons_zero, List.set_cons_succ, Int.reduceToNat, Int.toNat_one, Int.toNat_zero, isiV, tyOf]
    have no : ¬ (1 ≤ xs.length ∧ xs.length ≤ 24) → isPermB (.tuple xs) = false := fun z => by
      unfold isPermB
      by_cases z1 : 1 ≤ xs.length
      · have z2 : ¬ xs.length ≤ 24 := fun z2 => z ⟨z1, z2⟩
        simp [z1, z2]
      · simp [z1]
    refine ⟨fun h1 => ⟨fun h2 => kr _ _ ?_, fun h2 => kn _ _ ?_⟩, fun h1 => kr _ _ ?_⟩
    · simp (disch := omega) only [w_pure, w_ofO, w_guard, w_look, w_lookN, w_lookR, w_settle, w_settleN, w_settleD, w_asInt, w_asBool, w_refOf, w_cellAt, w_newCell, w_newCellD, w_looks0, w_looks, w_var, w_con, w_glob, w_bin, w_neg, w_cmp, w_chain, w_isin, w_and, w_or, w_not, w_ifx, w_tup, w_lst, w_emp, w_idx, w_slc, w_bi, w_lrng, w_isi, w_call, w_cell, w_app, w_pop, w_popAt, w_esN, w_es, w_asN, w_as, w_oN, w_o, w_ifN, w_if, w_tgN, w_tgT, w_tgS, w_tgsN, w_tgs, w_itV, w_it1, w_it2, w_itE, w_itZ, w_asg, w_par, w_expr, w_ret, w_sife, w_stsN, w_sts1, w_brk, w_cnt, w_pass, w_leave, w_leaveN, w_leaveD, ends_ret, w_bind, w_noX, keep_dat, keep_ref, keep_newL, keep_newD, tgsLen, seqOf, exists_eq_left', exists_eq_left, exists_eq', exists_and_left, exists_const, Option.some.injEq, Option.map_some, Option.bind_some, List.getElem?_cons_zero, List.getElem?_cons_succ, List.set_cons_zero, List.set_cons_succ, List.any_cons, List.any_nil, List.map_cons, List.map_nil, List.cons_append, List.nil_append, List.length_cons, List.length_nil, PyData.int.injEq, PyData.bool.injEq, PyData.str.injEq, PyData.list.injEq, PyData.tuple.injEq, D.dat.injEq, Cell.lst.injEq, List.cons.injEq, Bool.not_true, Bool.not_false, Bool.or_false, Bool.or_true, Bool.false_or, Bool.true_or, Bool.and_true, Bool.true_and, Bool.and_false, Bool.false_and, decide_true, decide_false, decide_eq_true_eq, decide_eq_false_iff_not, true_and, and_true, false_and, and_false, Bool.false_eq_true, Bool.true_eq_false, reduceCtorEq, if_true, if_false, ite_true, ite_false, true_implies, false_implies, implies_true, forall_const, forall_eq', forall_eq, id, Bool.not_eq_true', Bool.not_eq_false', wipeE, Nat.zero_le, lim_of, lim_lt, o_addI, o_subI, o_mul, o_fdiv, o_modI, o_pow, o_addT, o_addL, o_ltI, o_leI, o_gtI, o_geI, o_eqI, o_neI, o_isN, o_notN, o_eqB, o_neB, o_eqS, o_neS, o_lenL, o_lenT, o_abs, o_tupL, o_tupT, o_lisL, o_lisT, o_intI, o_intB, o_ix0, o_ix1, o_ix2, o_ix3, o_it0, o_it1, o_it2, o_it3, ixPl_of, take_self, take_set, get_set, set_set', List.length_set, Nat.reduceAdd, Nat.reduceSub, List.replicate_succ, List.replicate_zero, List.set_cons_zero, List.set_cons_succ, Int.reduceToNat, Int.toNat_one, Int.toNat_zero]
      rw [no (by omega)] at h
      exact h
    · refine wp_cons fun K kn kr => ?_
      simp (disch := omega) only [w_pure, w_ofO, w_guard, w_look, w_lookN, w_lookR, w_settle, w_settleN, w_settleD, w_asInt, w_asBool, w_refOf, w_cellAt, w_newCell, w_newCellD, w_looks0, w_looks, w_var, w_con, w_glob, w_bin, w_neg, w_cmp, w_chain, w_isin, w_and, w_or, w_not, w_ifx, w_tup, w_lst, w_emp, w_idx, w_slc, w_bi, w_lrng, w_isi, w_call, w_cell, w_app, w_pop, w_popAt, w_esN, w_es, w_asN, w_as, w_oN, w_o, w_ifN, w_if, w_tgN, w_tgT, w_tgS, w_tgsN, w_tgs, w_itV, w_it1, w_it2, w_itE, w_itZ, w_asg, w_par, w_expr, w_ret, w_sife, w_stsN, w_sts1, w_brk, w_cnt, w_pass, w_leave, w_leaveN, w_leaveD, ends_ret, w_bind, w_noX, keep_dat, keep_ref, keep_newL, keep_newD, tgsLen, seqOf, exists_eq_left', exists_eq_left, exists_eq', exists_and_left, exists_const, Option.some.injEq, Option.map_some, Option.bind_some, List.getElem?_cons_zero, List.getElem?_cons_succ, List.set_cons_zero, List.set_cons_succ, List.any_cons, List.any_nil, List.map_cons, List.map_nil, List.cons_append, List.nil_append, List.length_cons, List.length_nil, PyData.int.injEq, PyData.bool.injEq, PyData.str.injEq, PyData.list.injEq, PyData.tuple.injEq, D.dat.injEq, Cell.lst.injEq, List.cons.injEq, Bool.not_true, Bool.not_false, Bool.or_false, Bool.or_true, Bool.false_or, Bool.true_or, Bool.and_true, Bool.true_and, Bool.and_false, Bool.false_and, decide_true, decide_false, decide_eq_true_eq, decide_eq_false_iff_not, true_and, and_true, false_and, and_false, Bool.false_eq_true, Bool.true_eq_false, reduceCtorEq, if_true, if_false, ite_true, ite_false, true_implies, false_implies, implies_true, forall_const, forall_eq', forall_eq, id, Bool.not_eq_true', Bool.not_eq_false', wipeE, Nat.zero_le, lim_of, lim_lt, o_addI, o_subI, o_mul, o_fdiv, o_modI, o_pow, o_addT, o_addL, o_ltI, o_leI, o_gtI, o_geI, o_eqI, o_neI, o_isN, o_notN, o_eqB, o_neB, o_eqS, o_neS, o_lenL, o_lenT, o_abs, o_tupL, o_tupT, o_lisL, o_lisT, o_intI, o_intB, o_ix0, o_ix1, o_ix2, o_ix3, o_it0, o_it1, o_it2, o_it3, ixPl_of, take_self, take_set, get_set, set_set', List.length_set, Nat.reduceAdd, Nat.reduceSub, List.replicate_succ, List.replicate_zero, List.set_cons_zero, List.set_cons_succ, Int.reduceToNat, Int.toNat_one, Int.toNat_zero]
      rw [w_comp]
      simp (disch := omega) only [w_pure, w_ofO, w_guard, w_look, w_lookN, w_lookR, w_settle, w_settleN, w_settleD, w_asInt, w_asBool, w_refOf, w_cellAt, w_newCell, w_newCellD, w_looks0, w_looks, w_var, w_con, w_glob, w_bin, w_neg, w_cmp, w_chain, w_isin, w_and, w_or, w_not, w_ifx, w_tup, w_lst, w_emp, w_idx, w_slc, w_bi, w_lrng, w_isi, w_call, w_cell, w_app, w_pop, w_popAt, w_esN, w_es, w_asN, w_as, w_oN, w_o, w_ifN, w_if, w_tgN, w_tgT, w_tgS, w_tgsN, w_tgs, w_itV, w_it1, w_it2, w_itE, w_itZ, w_asg, w_par, w_expr, w_ret, w_sife, w_stsN, w_sts1, w_brk, w_cnt, w_pass, w_leave, w_leaveN, w_leaveD, ends_ret, w_bind, w_noX, keep_dat, keep_ref, keep_newL, keep_newD, tgsLen, seqOf, exists_eq_left', exists_eq_left, exists_eq', exists_and_left, exists_const, Option.some.injEq, Option.map_some, Option.bind_some, List.getElem?_cons_zero, List.getElem?_cons_succ, List.set_cons_zero, List.set_cons_succ, List.any_cons, List.any_nil, List.map_cons, List.map_nil, List.cons_append, List.nil_append, List.length_cons, List.length_nil, PyData.int.injEq, PyData.bool.injEq, PyData.str.injEq, PyData.list.injEq, PyData.tuple.injEq, D.dat.injEq, Cell.lst.injEq, List.cons.injEq, Bool.not_true, Bool.not_false, Bool.or_false, Bool.or_true, Bool.false_or, Bool.true_or, Bool.and_true, Bool.true_and, Bool.and_false, Bool.false_and, decide_true, decide_false, decide_eq_true_eq, decide_eq_false_iff_not, true_and, and_true, false_and, and_false, Bool.false_eq_true, Bool.true_eq_false, reduceCtorEq, if_true, if_false, ite_true, ite_false, true_implies, false_implies, implies_true, forall_const, forall_eq', forall_eq, id, Bool.not_eq_true', Bool.not_eq_false', wipeE, Nat.zero_le, lim_of, lim_lt, o_addI, o_subI, o_mul, o_fdiv, o_modI, o_pow, o_addT, o_addL, o_ltI, o_leI, o_gtI, o_geI, o_eqI, o_neI, o_isN, o_notN, o_eqB, o_neB, o_eqS, o_neS, o_lenL, o_lenT, o_abs, o_tupL, o_tupT, o_lisL, o_lisT, o_intI, o_intB, o_ix0, o_ix1, o_ix2, o_ix3, o_it0, o_it1, o_it2, o_it3, ixPl_of, take_self, take_set, get_set, set_set', List.length_set, Nat.reduceAdd, Nat.reduceSub, List.replicate_succ, List.replicate_zero, List.set_cons_zero, List.set_cons_succ, Int.reduceToNat, Int.toNat_one, Int.toNat_zero]
      refine lc_pure (f := fun x => if isWhole x then none else some x) (fun x hx R hR => ?_) (by rw [List.length_nil, LIM]; omega) ?_
      · rw [w_noX]
        simp (disch := omega) only [w_pure, w_ofO, w_guard, w_look, w_lookN, w_lookR, w_settle, w_settleN, w_settleD, w_asInt, w_asBool, w_refOf, w_cellAt, w_newCell, w_newCellD, w_looks0, w_looks, w_var, w_con, w_glob, w_bin, w_neg, w_cmp, w_chain, w_isin, w_and, w_or, w_not, w_ifx, w_tup, w_lst, w_emp, w_idx, w_slc, w_bi, w_lrng, w_isi, w_call, w_cell, w_app, w_pop, w_popAt, w_esN, w_es, w_asN, w_as, w_oN, w_o, w_ifN, w_if, w_tgN, w_tgT, w_tgS, w_tgsN, w_tgs, w_itV, w_it1, w_it2, w_itE, w_itZ, w_asg, w_par, w_expr, w_ret, w_sife, w_stsN, w_sts1, w_brk, w_cnt, w_pass, w_leave, w_leaveN, w_leaveD, ends_ret, w_bind, w_noX, keep_dat, keep_ref, keep_newL, keep_newD, tgsLen, seqOf, exists_eq_left', exists_eq_left, exists_eq', exists_and_left, exists_const, Option.some.injEq, Option.map_some, Option.bind_some, List.getElem?_cons_zero, List.getElem?_cons_succ, List.set_cons_zero, List.set_cons_succ, List.any_cons, List.any_nil, List.map_cons, List.map_nil, List.cons_append, List.nil_append, List.length_cons, List.length_nil, PyData.int.injEq, PyData.bool.injEq, PyData.str.injEq, PyData.list.injEq, PyData.tuple.injEq, D.dat.injEq, Cell.lst.injEq, List.cons.injEq, Bool.not_true, Bool.not_false, Bool.or_false, Bool.or_true, Bool.false_or, Bool.true_or, Bool.and_true, Bool.true_and, Bool.and_false, Bool.false_and, decide_true, decide_false, decide_eq_true_eq, decide_eq_false_iff_not, true_and, and_true, false_and, and_false, Bool.false_eq_true, Bool.true_eq_false, reduceCtorEq, if_true, if_false, ite_true, ite_false, true_implies, false_implies, implies_true, forall_const, forall_eq', forall_eq, id, Bool.not_eq_true', Bool.not_eq_false', wipeE, Nat.zero_le, lim_of, lim_lt, o_addI, o_subI, o_mul, o_fdiv, o_modI, o_pow, o_addT, o_addL, o_ltI, o_leI, o_gtI, o_geI, o_eqI, o_neI, o_isN, o_notN, o_eqB, o_neB, o_eqS, o_neS, o_lenL, o_lenT, o_abs, o_tupL, o_tupT, o_lisL, o_lisT, o_intI, o_intB, o_ix0, o_ix1, o_ix2, o_ix3, o_it0, o_it1, o_it2, o_it3, ixPl_of, take_self, take_set, get_set, set_set', List.length_set, Nat.reduceAdd, Nat.reduceSub, List.replicate_succ, List.replicate_zero, List.set_cons_zero, List.set_cons_succ, Int.reduceToNat, Int.toNat_one, Int.toNat_zero]
        cases x <;> simp [isiV, tyOf, isWhole, w_pure, w_ofO, w_guard, w_look, w_lookN, w_lookR, w_settle, w_settleN, w_settleD, w_asInt, w_asBool, w_refOf, w_cellAt, w_newCell, w_newCellD, w_looks0, w_looks, w_var, w_con, w_glob, w_bin, w_neg, w_cmp, w_chain, w_isin, w_and, w_or, w_not, w_ifx, w_tup, w_lst, w_emp, w_idx, w_slc, w_bi, w_lrng, w_isi, w_call, w_cell, w_app, w_pop, w_popAt, w_esN, w_es, w_asN, w_as, w_oN, w_o, w_ifN, w_if, w_tgN, w_tgT, w_tgS, w_tgsN, w_tgs, w_itV, w_it1, w_it2, w_itE, w_itZ, w_asg, w_par, w_expr, w_ret, w_sife, w_stsN, w_sts1, w_brk, w_cnt, w_pass, w_leave, w_leaveN, w_leaveD, ends_ret, w_bind, w_noX, keep_dat, keep_ref, keep_newL, keep_newD, tgsLen, seqOf, exists_eq_left', exists_eq_left, exists_eq', exists_and_left, exists_const, Option.some.injEq, Option.map_some, Option.bind_some, List.getElem?_cons_zero, List.getElem?_cons_succ, List.set_cons_zero, List.set_cons_succ, List.any_cons, List.any_nil, List.map_cons, List.map_nil, List.cons_append, List.nil_append, List.length_cons, List.length_nil, PyData.int.injEq, PyData.bool.injEq, PyData.str.injEq, PyData.list.injEq, PyData.tuple.injEq, D.dat.injEq, Cell.lst.injEq, List.cons.injEq, Bool.not_true, Bool.not_false, Bool.or_false, Bool.or_true, Bool.false_or, Bool.true_or, Bool.and_true, Bool.true_and, Bool.and_false, Bool.false_and, decide_true, decide_false, decide_eq_true_eq, decide_eq_false_iff_not, true_and, and_true, false_and, and_false, Bool.false_eq_true, Bool.true_eq_false, reduceCtorEq, if_true, if_false, ite_true, ite_false, true_implies, false_implies, implies_true, forall_const, forall_eq', forall_eq, id, Bool.not_eq_true', Bool.not_eq_false', wipeE] at hR ⊢ <;> exact hR
      · have e : [] ++ xs.filterMap (fun x => if isWhole x then none else some x) = xs.filter fun x => !isWhole x := by
          rw [List.nil_append, fm_not]
        rw [e]
        have hs2 : shalAll 59 (xs.filter fun x => !isWhole x) = true := shalAll_mem.mpr fun x hx => shalAll_mem.mp hs x (List.mem_filter.mp hx).1
        simp (disch := omega) only [w_pure, w_ofO, w_guard, w_look, w_lookN, w_lookR, w_settle, w_settleN, w_settleD, w_asInt, w_asBool, w_refOf, w_cellAt, w_newCell, w_newCellD, w_looks0, w_looks, w_var, w_con, w_glob, w_bin, w_neg, w_cmp, w_chain, w_isin, w_and, w_or, w_not, w_ifx, w_tup, w_lst, w_emp, w_idx, w_slc, w_bi, w_lrng, w_isi, w_call, w_cell, w_app, w_pop, w_popAt, w_esN, w_es, w_asN, w_as, w_oN, w_o, w_ifN, w_if, w_tgN, w_tgT, w_tgS, w_tgsN, w_tgs, w_itV, w_it1, w_it2, w_itE, w_itZ, w_asg, w_par, w_expr, w_ret, w_sife, w_stsN, w_sts1, w_brk, w_cnt, w_pass, w_leave, w_leaveN, w_leaveD, ends_ret, w_bind, w_noX, keep_dat, keep_ref, keep_newL, keep_newD, tgsLen, seqOf, exists_eq_left', exists_eq_left, exists_eq', exists_and_left, exists_const, Option.some.injEq, Option.map_some, Option.bind_some, List.getElem?_cons_zero, List.getElem?_cons_succ, List.set_cons_zero, List.set_cons_succ, List.any_cons, List.any_nil, List.map_cons, List.map_nil, List.cons_append, List.nil_append, List.length_cons, List.length_nil, PyData.int.injEq, PyData.bool.injEq, PyData.str.injEq, PyData.list.injEq, PyData.tuple.injEq, D.dat.injEq, Cell.lst.injEq, List.cons.injEq, Bool.not_true, Bool.not_false, Bool.or_false, Bool.or_true, Bool.false_or, Bool.true_or, Bool.and_true, Bool.true_and, Bool.and_false, Bool.false_and, decide_true, decide_false, decide_eq_true_eq, decide_eq_false_iff_not, true_and, and_true, false_and, and_false, Bool.false_eq_true, Bool.true_eq_false, reduceCtorEq, if_true, if_false, ite_true, ite_false, true_implies, false_implies, implies_true, forall_const, forall_eq', forall_eq, id, Bool.not_eq_true', Bool.not_eq_false', wipeE, Nat.zero_le, lim_of, lim_lt, o_addI, o_subI, o_mul, o_fdiv, o_modI, o_pow, o_addT, o_addL, o_ltI, o_leI, o_gtI, o_geI, o_eqI, o_neI, o_isN, o_notN, o_eqB, o_neB, o_eqS, o_neS, o_lenL, o_lenT, o_abs, o_tupL, o_tupT, o_lisL, o_lisT, o_intI, o_intB, o_ix0, o_ix1, o_ix2, o_ix3, o_it0, o_it1, o_it2, o_it3, ixPl_of, take_self, take_set, get_set, set_set', List.length_set, Nat.reduceAdd, Nat.reduceSub, List.replicate_succ, List.replicate_zero, List.set_cons_zero, List.set_cons_succ, Int.reduceToNat, Int.toNat_one, Int.toNat_zero, o_neNil hs2]
        refine ⟨fun h3 => kr _ _ ?_, fun h3 => kn _ _ ?_⟩
        · have h3' : xs.all isWhole = false := by
            refine Bool.eq_false_iff.mpr fun z => ?_
            rw [List.filter_eq_nil_iff.mpr fun x hx => by simp [List.all_eq_true.mp z x hx]] at h3
            simp at h3
          have e2 : isPermB (.tuple xs) = false := by
            unfold isPermB
            simp only [h3', Bool.and_false, Bool.false_and]
          simp (disch := omega) only [w_pure, w_ofO, w_guard, w_look, w_lookN, w_lookR, w_settle, w_settleN, w_settleD, w_asInt, w_asBool, w_refOf, w_cellAt, w_newCell, w_newCellD, w_looks0, w_looks, w_var, w_con, w_glob, w_bin, w_neg, w_cmp, w_chain, w_isin, w_and, w_or, w_not, w_ifx, w_tup, w_lst, w_emp, w_idx, w_slc, w_bi, w_lrng, w_isi, w_call, w_cell, w_app, w_pop, w_popAt, w_esN, w_es, w_asN, w_as, w_oN, w_o, w_ifN, w_if, w_tgN, w_tgT, w_tgS, w_tgsN, w_tgs, w_itV, w_it1, w_it2, w_itE, w_itZ, w_asg, w_par, w_expr, w_ret, w_sife, w_stsN, w_sts1, w_brk, w_cnt, w_pass, w_leave, w_leaveN, w_leaveD, ends_ret, w_bind, w_noX, keep_dat, keep_ref, keep_newL, keep_newD, tgsLen, seqOf, exists_eq_left', exists_eq_left, exists_eq', exists_and_left, exists_const, Option.some.injEq, Option.map_some, Option.bind_some, List.getElem?_cons_zero, List.getElem?_cons_succ, List.set_cons_zero, List.set_cons_succ, List.any_cons, List.any_nil, List.map_cons, List.map_nil, List.cons_append, List.nil_append, List.length_cons, List.length_nil, PyData.int.injEq, PyData.bool.injEq, PyData.str.injEq, PyData.list.injEq, PyData.tuple.injEq, D.dat.injEq, Cell.lst.injEq, List.cons.injEq, Bool.not_true, Bool.not_false, Bool.or_false, Bool.or_true, Bool.false_or, Bool.true_or, Bool.and_true, Bool.true_and, Bool.and_false, Bool.false_and, decide_true, decide_false, decide_eq_true_eq, decide_eq_false_iff_not, true_and, and_true, false_and, and_false, Bool.false_eq_true, Bool.true_eq_false, reduceCtorEq, if_true, if_false, ite_true, ite_false, true_implies, false_implies, implies_true, forall_const, forall_eq', forall_eq, id, Bool.not_eq_true', Bool.not_eq_false', wipeE, Nat.zero_le, lim_of, lim_lt, o_addI, o_subI, o_mul, o_fdiv, o_modI, o_pow, o_addT, o_addL, o_ltI, o_leI, o_gtI, o_geI, o_eqI, o_neI, o_isN, o_notN, o_eqB, o_neB, o_eqS, o_neS, o_lenL, o_lenT, o_abs, o_tupL, o_tupT, o_lisL, o_lisT, o_intI, o_intB, o_ix0, o_ix1, o_ix2, o_ix3, o_it0, o_it1, o_it2, o_it3, ixPl_of, take_self, take_set, get_set, set_set', List.length_set, Nat.reduceAdd, Nat.reduceSub, List.replicate_succ, List.replicate_zero, List.set_cons_zero, List.set_cons_succ, Int.reduceToNat, Int.toNat_one, Int.toNat_zero]
          rw [e2] at h
          exact h
        · have h3' : xs.all isWhole = true := by
            refine List.all_eq_true.mpr fun x hx => ?_
            cases hw : isWhole x with
            | true => rfl
            | false =>
              refine absurd ((List.mem_filter (p := fun x => !isWhole x)).mpr ⟨hx, by simp [hw]⟩) ?_
              rw [show (xs.filter fun x => !isWhole x) = [] by simpa using h3]
              exact List.not_mem_nil
          obtain ⟨ns, rfl⟩ := wholes h3'
          have hn : ns.length ≤ 24 := by rw [List.length_map] at h2; omega
          rw [List.length_map] at h1 h2
          have e2 : isPermB (.tuple (ns.map .int)) = decide (isort ns = (List.range ns.length).map fun k : Nat => (k : Int)) := by
            simp only [isPermB, h3', allInts_map, List.length_map, decide_eq_true (show 1 ≤ ns.length by omega), decide_eq_true hn, Bool.and_true, Bool.true_and]
          rw [e2] at h
          simp (disch := omega) only [w_pure, w_ofO, w_guard, w_look, w_lookN, w_lookR, w_settle, w_settleN, w_settleD, w_asInt, w_asBool, w_refOf, w_cellAt, w_newCell, w_newCellD, w_looks0, w_looks, w_var, w_con, w_glob, w_bin, w_neg, w_cmp, w_chain, w_isin, w_and, w_or, w_not, w_ifx, w_tup, w_lst, w_emp, w_idx, w_slc, w_bi, w_lrng, w_isi, w_call, w_cell, w_app, w_pop, w_popAt, w_esN, w_es, w_asN, w_as, w_oN, w_o, w_ifN, w_if, w_tgN, w_tgT, w_tgS, w_tgsN, w_tgs, w_itV, w_it1, w_it2, w_itE, w_itZ, w_asg, w_par, w_expr, w_ret, w_sife, w_stsN, w_sts1, w_brk, w_cnt, w_pass, w_leave, w_leaveN, w_leaveD, ends_ret, w_bind, w_noX, keep_dat, keep_ref, keep_newL, keep_newD, tgsLen, seqOf, exists_eq_left', exists_eq_left, exists_eq', exists_and_left, exists_const, Option.some.injEq, Option.map_some, Option.bind_some, List.getElem?_cons_zero, List.getElem?_cons_succ, List.set_cons_zero, List.set_cons_succ, List.any_cons, List.any_nil, List.map_cons, List.map_nil, List.cons_append, List.nil_append, List.length_cons, List.length_nil, PyData.int.injEq, PyData.bool.injEq, PyData.str.injEq, PyData.list.injEq, PyData.tuple.injEq, D.dat.injEq, Cell.lst.injEq, List.cons.injEq, Bool.not_true, Bool.not_false, Bool.or_false, Bool.or_true, Bool.false_or, Bool.true_or, Bool.and_true, Bool.true_and, Bool.and_false, Bool.false_and, decide_true, decide_false, decide_eq_true_eq, decide_eq_false_iff_not, true_and, and_true, false_and, and_false, Bool.false_eq_true, Bool.true_eq_false, reduceCtorEq, if_true, if_false, ite_true, ite_false, true_implies, false_implies, implies_true, forall_const, forall_eq', forall_eq, id, Bool.not_eq_true', Bool.not_eq_false', wipeE, Nat.zero_le, lim_of, lim_lt, o_addI, o_subI, o_mul, o_fdiv, o_modI, o_pow, o_addT, o_addL, o_ltI, o_leI, o_gtI, o_geI, o_eqI, o_neI, o_isN, o_notN, o_eqB, o_neB, o_eqS, o_neS, o_lenL, o_lenT, o_abs, o_tupL, o_tupT, o_lisL, o_lisT, o_intI, o_intB, o_ix0, o_ix1, o_ix2, o_ix3, o_it0, o_it1, o_it2, o_it3, ixPl_of, take_self, take_set, get_set, set_set', List.length_set, Nat.reduceAdd, Nat.reduceSub, List.replicate_succ, List.replicate_zero, List.set_cons_zero, List.set_cons_succ, Int.reduceToNat, Int.toNat_one, Int.toNat_zero]
          rw [w_comp]
          simp (disch := omega) only [w_pure, w_ofO, w_guard, w_look, w_lookN, w_lookR, w_settle, w_settleN, w_settleD, w_asInt, w_asBool, w_refOf, w_cellAt, w_newCell, w_newCellD, w_looks0, w_looks, w_var, w_con, w_glob, w_bin, w_neg, w_cmp, w_chain, w_isin, w_and, w_or, w_not, w_ifx, w_tup, w_lst, w_emp, w_idx, w_slc, w_bi, w_lrng, w_isi, w_call, w_cell, w_app, w_pop, w_popAt, w_esN, w_es, w_asN, w_as, w_oN, w_o, w_ifN, w_if, w_tgN, w_tgT, w_tgS, w_tgsN, w_tgs, w_itV, w_it1, w_it2, w_itE, w_itZ, w_asg, w_par, w_expr, w_ret, w_sife, w_stsN, w_sts1, w_brk, w_cnt, w_pass, w_leave, w_leaveN, w_leaveD, ends_ret, w_bind, w_noX, keep_dat, keep_ref, keep_newL, keep_newD, tgsLen, seqOf, exists_eq_left', exists_eq_left, exists_eq', exists_and_left, exists_const, Option.some.injEq, Option.map_some, Option.bind_some, List.getElem?_cons_zero, List.getElem?_cons_succ, List.set_cons_zero, List.set_cons_succ, List.any_cons, List.any_nil, List.map_cons, List.map_nil, List.cons_append, List.nil_append, List.length_cons, List.length_nil, PyData.int.injEq, PyData.bool.injEq, PyData.str.injEq, PyData.list.injEq, PyData.tuple.injEq, D.dat.injEq, Cell.lst.injEq, List.cons.injEq, Bool.not_true, Bool.not_false, Bool.or_false, Bool.or_true, Bool.false_or, Bool.true_or, Bool.and_true, Bool.true_and, Bool.and_false, Bool.false_and, decide_true, decide_false, decide_eq_true_eq, decide_eq_false_iff_not, true_and, and_true, false_and, and_false, Bool.false_eq_true, Bool.true_eq_false, reduceCtorEq, if_true, if_false, ite_true, ite_false, true_implies, false_implies, implies_true, forall_const, forall_eq', forall_eq, id, Bool.not_eq_true', Bool.not_eq_false', wipeE, Nat.zero_le, lim_of, lim_lt, o_addI, o_subI, o_mul, o_fdiv, o_modI, o_pow, o_addT, o_addL, o_ltI, o_leI, o_gtI, o_geI, o_eqI, o_neI, o_isN, o_notN, o_eqB, o_neB, o_eqS, o_neS, o_lenL, o_lenT, o_abs, o_tupL, o_tupT, o_lisL, o_lisT, o_intI, o_intB, o_ix0, o_ix1, o_ix2, o_ix3, o_it0, o_it1, o_it2, o_it3, ixPl_of, take_self, take_set, get_set, set_set', List.length_set, Nat.reduceAdd, Nat.reduceSub, List.replicate_succ, List.replicate_zero, List.set_cons_zero, List.set_cons_succ, Int.reduceToNat, Int.toNat_one, Int.toNat_zero, List.length_map, Int.toNat_natCast, ints_zero]
          refine ⟨by simp [small]; omega, lc_pure (f := fun x => match x with
            | PyData.int i => if i ∈ ns then none else some (PyData.int i)
            | _ => none) (fun x hx R hR => ?_) (by rw [List.length_nil, List.length_map, List.length_map, List.length_range, LIM]; omega) ?_⟩
          · obtain ⟨i, hi, rfl⟩ := List.mem_map.mp hx
            rw [w_noX]
            simp (disch := omega) only [w_pure, w_ofO, w_guard, w_look, w_lookN, w_lookR, w_settle, w_settleN, w_settleD, w_asInt, w_asBool, w_refOf, w_cellAt, w_newCell, w_newCellD, w_looks0, w_looks, w_var, w_con, w_glob, w_bin, w_neg, w_cmp, w_chain, w_isin, w_and, w_or, w_not, w_ifx, w_tup, w_lst, w_emp, w_idx, w_slc, w_bi, w_lrng, w_isi, w_call, w_cell, w_app, w_pop, w_popAt, w_esN, w_es, w_asN, w_as, w_oN, w_o, w_ifN, w_if, w_tgN, w_tgT, w_tgS, w_tgsN, w_tgs, w_itV, w_it1, w_it2, w_itE, w_itZ, w_asg, w_par, w_expr, w_ret, w_sife, w_stsN, w_sts1, w_brk, w_cnt, w_pass, w_leave, w_leaveN, w_leaveD, ends_ret, w_bind, w_noX, keep_dat, keep_ref, keep_newL, keep_newD, tgsLen, seqOf, exists_eq_left', exists_eq_left, exists_eq', exists_and_left, exists_const, Option.some.injEq, Option.map_some, Option.bind_some, List.getElem?_cons_zero, List.getElem?_cons_succ, List.set_cons_zero, List.set_cons_succ, List.any_cons, List.any_nil, List.map_cons, List.map_nil, List.cons_append, List.nil_append, List.length_cons, List.length_nil, PyData.int.injEq, PyData.bool.injEq, PyData.str.injEq, PyData.list.injEq, PyData.tuple.injEq, D.dat.injEq, Cell.lst.injEq, List.cons.injEq, Bool.not_true, Bool.not_false, Bool.or_false, Bool.or_true, Bool.false_or, Bool.true_or, Bool.and_true, Bool.true_and, Bool.and_false, Bool.false_and, decide_true, decide_false, decide_eq_true_eq, decide_eq_false_iff_not, true_and, and_true, false_and, and_false, Bool.false_eq_true, Bool.true_eq_false, reduceCtorEq, if_true, if_false, ite_true, ite_false, true_implies, false_implies, implies_true, forall_const, forall_eq', forall_eq, id, Bool.not_eq_true', Bool.not_eq_false', wipeE, Nat.zero_le, lim_of, lim_lt, o_addI, o_subI, o_mul, o_fdiv, o_modI, o_pow, o_addT, o_addL, o_ltI, o_leI, o_gtI, o_geI, o_eqI, o_neI, o_isN, o_notN, o_eqB, o_neB, o_eqS, o_neS, o_lenL, o_lenT, o_abs, o_tupL, o_tupT, o_lisL, o_lisT, o_intI, o_intB, o_ix0, o_ix1, o_ix2, o_ix3, o_it0, o_it1, o_it2, o_it3, ixPl_of, take_self, take_set, get_set, set_set', List.length_set, Nat.reduceAdd, Nat.reduceSub, List.replicate_succ, List.replicate_zero, List.set_cons_zero, List.set_cons_succ, Int.reduceToNat, Int.toNat_one, Int.toNat_zero, o_inT]
            by_cases hi : i ∈ ns <;> simp [hi] at hR ⊢ <;> simp (disch := omega) only [w_pure, w_ofO, w_guard, w_look, w_lookN, w_lookR, w_settle, w_settleN, w_settleD, w_asInt, w_asBool, w_refOf, w_cellAt, w_newCell, w_newCellD, w_looks0, w_looks, w_var, w_con, w_glob, w_bin, w_neg, w_cmp, w_chain, w_isin, w_and, w_or, w_not, w_ifx, w_tup, w_lst, w_emp, w_idx, w_slc, w_bi, w_lrng, w_isi, w_call, w_cell, w_app, w_pop, w_popAt, w_esN, w_es, w_asN, w_as, w_oN, w_o, w_ifN, w_if, w_tgN, w_tgT, w_tgS, w_tgsN, w_tgs, w_itV, w_it1, w_it2, w_itE, w_itZ, w_asg, w_par, w_expr, w_ret, w_sife, w_stsN, w_sts1, w_brk, w_cnt, w_pass, w_leave, w_leaveN, w_leaveD, ends_ret, w_bind, w_noX, keep_dat, keep_ref, keep_newL, keep_newD, tgsLen, seqOf, exists_eq_left', exists_eq_left, exists_eq', exists_and_left, exists_const, Option.some.injEq, Option.map_some, Option.bind_some, List.getElem?_cons_zero, List.getElem?_cons_succ, List.set_cons_zero, List.set_cons_succ, List.any_cons, List.any_nil, List.map_cons, List.map_nil, List.cons_append, List.nil_append, List.length_cons, List.length_nil, PyData.int.injEq, PyData.bool.injEq, PyData.str.injEq, PyData.list.injEq, PyData.tuple.injEq, D.dat.injEq, Cell.lst.injEq, List.cons.injEq, Bool.not_true, Bool.not_false, Bool.or_false, Bool.or_true, Bool.false_or, Bool.true_or, Bool.and_true, Bool.true_and, Bool.and_false, Bool.false_and, decide_true, decide_false, decide_eq_true_eq, decide_eq_false_iff_not, true_and, and_true, false_and, and_false, Bool.false_eq_true, Bool.true_eq_false, reduceCtorEq, if_true, if_false, ite_true, ite_false, true_implies, false_implies, implies_true, forall_const, forall_eq', forall_eq, id, Bool.not_eq_true', Bool.not_eq_false', wipeE, Nat.zero_le, lim_of, lim_lt, o_addI, o_subI, o_mul, o_fdiv, o_modI, o_pow, o_addT, o_addL, o_ltI, o_leI, o_gtI, o_geI, o_eqI, o_neI, o_isN, o_notN, o_eqB, o_neB, o_eqS, o_neS, o_lenL, o_lenT, o_abs, o_tupL, o_tupT, o_lisL, o_lisT, o_intI, o_intB, o_ix0, o_ix1, o_ix2, o_ix3, o_it0, o_it1, o_it2, o_it3, ixPl_of, take_self, take_set, get_set, set_set', List.length_set, Nat.reduceAdd, Nat.reduceSub, List.replicate_succ, List.replicate_zero, List.set_cons_zero, List.set_cons_succ, Int.reduceToNat, Int.toNat_one, Int.toNat_zero] <;> exact hR
          · have e3 : [] ++ (((List.range ns.length).map fun k : Nat => (k : Int)).map PyData.int).filterMap (fun x => match x with
              | PyData.int i => if i ∈ ns then none else some (PyData.int i)
              | _ => none) = (((List.range ns.length).map fun k : Nat => (k : Int)).filter fun i => !decide (i ∈ ns)).map PyData.int := by
              rw [List.nil_append, fm_in]
            rw [e3]
            simp (disch := omega) only [w_pure, w_ofO, w_guard, w_look, w_lookN, w_lookR, w_settle, w_settleN, w_settleD, w_asInt, w_asBool, w_refOf, w_cellAt, w_newCell, w_newCellD, w_looks0, w_looks, w_var, w_con, w_glob, w_bin, w_neg, w_cmp, w_chain, w_isin, w_and, w_or, w_not, w_ifx, w_tup, w_lst, w_emp, w_idx, w_slc, w_bi, w_lrng, w_isi, w_call, w_cell, w_app, w_pop, w_popAt, w_esN, w_es, w_asN, w_as, w_oN, w_o, w_ifN, w_if, w_tgN, w_tgT, w_tgS, w_tgsN, w_tgs, w_itV, w_it1, w_it2, w_itE, w_itZ, w_asg, w_par, w_expr, w_ret, w_sife, w_stsN, w_sts1, w_brk, w_cnt, w_pass, w_leave, w_leaveN, w_leaveD, ends_ret, w_bind, w_noX, keep_dat, keep_ref, keep_newL, keep_newD, tgsLen, seqOf, exists_eq_left', exists_eq_left, exists_eq', exists_and_left, exists_const, Option.some.injEq, Option.map_some, Option.bind_some, List.getElem?_cons_zero, List.getElem?_cons_succ, List.set_cons_zero, List.set_cons_succ, List.any_cons, List.any_nil, List.map_cons, List.map_nil, List.cons_append, List.nil_append, List.length_cons, List.length_nil, PyData.int.injEq, PyData.bool.injEq, PyData.str.injEq, PyData.list.injEq, PyData.tuple.injEq, D.dat.injEq, Cell.lst.injEq, List.cons.injEq, Bool.not_true, Bool.not_false, Bool.or_false, Bool.or_true, Bool.false_or, Bool.true_or, Bool.and_true, Bool.true_and, Bool.and_false, Bool.false_and, decide_true, decide_false, decide_eq_true_eq, decide_eq_false_iff_not, true_and, and_true, false_and, and_false, Bool.false_eq_true, Bool.true_eq_false, reduceCtorEq, if_true, if_false, ite_true, ite_false, true_implies, false_implies, implies_true, forall_const, forall_eq', forall_eq, id, Bool.not_eq_true', Bool.not_eq_false', wipeE, Nat.zero_le, lim_of, lim_lt, o_addI, o_subI, o_mul, o_fdiv, o_modI, o_pow, o_addT, o_addL, o_ltI, o_leI, o_gtI, o_geI, o_eqI, o_neI, o_isN, o_notN, o_eqB, o_neB, o_eqS, o_neS, o_lenL, o_lenT, o_abs, o_tupL, o_tupT, o_lisL, o_lisT, o_intI, o_intB, o_ix0, o_ix1, o_ix2, o_ix3, o_it0, o_it1, o_it2, o_it3, ixPl_of, take_self, take_set, get_set, set_set', List.length_set, Nat.reduceAdd, Nat.reduceSub, List.replicate_succ, List.replicate_zero, List.set_cons_zero, List.set_cons_succ, Int.reduceToNat, Int.toNat_one, Int.toNat_zero, o_eqNil (shalAll_ints _ _)]
            rw [show (List.map PyData.int (List.filter (fun i => !decide (i ∈ ns)) (List.map (fun k : Nat => (k : Int)) (List.range ns.length)))).isEmpty = decide (isort ns = (List.range ns.length).map fun k : Nat => (k : Int)) by
              rw [Bool.eq_iff_iff, decide_eq_true_iff, isort_is]
              simp [List.filter_eq_nil_iff]]
            exact h
    · simp (disch := omega) only [w_pure, w_ofO, w_guard, w_look, w_lookN, w_lookR, w_settle, w_settleN, w_settleD, w_asInt, w_asBool, w_refOf, w_cellAt, w_newCell, w_newCellD, w_looks0, w_looks, w_var, w_con, w_glob, w_bin, w_neg, w_cmp, w_chain, w_isin, w_and, w_or, w_not, w_ifx, w_tup, w_lst, w_emp, w_idx, w_slc, w_bi, w_lrng, w_isi, w_call, w_cell, w_app, w_pop, w_popAt, w_esN, w_es, w_asN, w_as, w_oN, w_o, w_ifN, w_if, w_tgN, w_tgT, w_tgS, w_tgsN, w_tgs, w_itV, w_it1, w_it2, w_itE, w_itZ, w_asg, w_par, w_expr, w_ret, w_sife, w_stsN, w_sts1, w_brk, w_cnt, w_pass, w_leave, w_leaveN, w_leaveD, ends_ret, w_bind, w_noX, keep_dat, keep_ref, keep_newL, keep_newD, tgsLen, seqOf, exists_eq_left', exists_eq_left, exists_eq', exists_and_left, exists_const, Option.some.injEq, Option.map_some, Option.bind_some, List.getElem?_cons_zero, List.getElem?_cons_succ, List.set_cons_zero, List.set_cons_succ, List.any_cons, List.any_nil, List.map_cons, List.map_nil, List.cons_append, List.nil_append, List.length_cons, List.length_nil, PyData.int.injEq, PyData.bool.injEq, PyData.str.injEq, PyData.list.injEq, PyData.tuple.injEq, D.dat.injEq, Cell.lst.injEq, List.cons.injEq, Bool.not_true, Bool.not_false, Bool.or_false, Bool.or_true, Bool.false_or, Bool.true_or, Bool.and_true, Bool.true_and, Bool.and_false, Bool.false_and, decide_true, decide_false, decide_eq_true_eq, decide_eq_false_iff_not, true_and, and_true, false_and, and_false, Bool.false_eq_true, Bool.true_eq_false, reduceCtorEq, if_true, if_false, ite_true, ite_false, true_implies, false_implies, implies_true, forall_const, forall_eq', forall_eq, id, Bool.not_eq_true', Bool.not_eq_false', wipeE, Nat.zero_le, lim_of, lim_lt, o_addI, o_subI, o_mul, o_fdiv, o_modI, o_pow, o_addT, o_addL, o_ltI, o_leI, o_gtI, o_geI, o_eqI, o_neI, o_isN, o_notN, o_eqB, o_neB, o_eqS, o_neS, o_lenL, o_lenT, o_abs, o_tupL, o_tupT, o_lisL, o_lisT, o_intI, o_intB, o_ix0, o_ix1, o_ix2, o_ix3, o_it0, o_it1, o_it2, o_it3, ixPl_of, take_self, take_set, get_set, set_set', List.length_set, Nat.reduceAdd, Nat.reduceSub, List.replicate_succ, List.replicate_zero, List.set_cons_zero, List.set_cons_succ, Int.reduceToNat, Int.toNat_one, Int.toNat_zero]
      rw [no (by omega)] at h
      exact h
  · have e2 : isPermB d = false := by
      cases d <;> first | rfl | (exact (ht ⟨_, rfl⟩).elim)
    have e3 : isiV .tuple d = false := by
      cases d <;> first | rfl | (exact (ht ⟨_, rfl⟩).elim)
    simp (disch := omega) only [w_pure, w_ofO, w_guard, w_look, w_lookN, w_lookR, w_settle, w_settleN, w_settleD, w_asInt, w_asBool, w_refOf, w_cellAt, w_newCell, w_newCellD, w_looks0, w_looks, w_var, w_con, w_glob, w_bin, w_neg, w_cmp, w_chain, w_isin, w_and, w_or, w_not, w_ifx, w_tup, w_lst, w_emp, w_idx, w_slc, w_bi, w_lrng, w_isi, w_call, w_cell, w_app, w_pop, w_popAt, w_esN, w_es, w_asN, w_as, w_oN, w_o, w_ifN, w_if, w_tgN, w_tgT, w_tgS, w_tgsN, w_tgs, w_itV, w_it1, w_it2, w_itE, w_itZ, w_asg, w_par, w_expr, w_ret, w_sife, w_stsN, w_sts1, w_brk, w_cnt, w_pass, w_leave, w_leaveN, w_leaveD, ends_ret, w_bind, w_noX, keep_dat, keep_ref, keep_newL, keep_newD, tgsLen, seqOf, exists_eq_left', exists_eq_left, exists_eq', exists_and_left, exists_const, Option.some.injEq, Option.map_some, Option.bind_some, List.getElem?_cons_zero, List.getElem?_cons_succ, List.set_cons_zero, List.set_cons_succ, List.any_cons, List.any_nil, List.map_cons, List.map_nil, List.cons_append, List.nil_append, List.length_cons, List.length_nil, PyData.int.injEq, PyData.bool.injEq, PyData.str.injEq, PyData.list.injEq, PyData.tuple.injEq, D.dat.injEq, Cell.lst.injEq, List.cons.injEq, Bool.not_true, Bool.not_false, Bool.or_false, Bool.or_true, Bool.false_or, Bool.true_or, Bool.and_true, Bool.true_and, Bool.and_false, Bool.false_and, decide_true, decide_false, decide_eq_true_eq, decide_eq_false_iff_not, true_and, and_true, false_and, and_false, Bool.false_eq_true, Bool.true_eq_false, reduceCtorEq, if_true, if_false, ite_true, ite_false, true_implies, false_implies, implies_true, forall_const, forall_eq', forall_eq, id, Bool.not_eq_true', Bool.not_eq_false', wipeE, Nat.zero_le, lim_of, lim_lt, o_addI, o_subI, o_mul, o_fdiv, o_modI, o_pow, o_addT, o_addL, o_ltI, o_leI, o_gtI, o_geI, o_eqI, o_neI, o_isN, o_notN, o_eqB, o_neB, o_eqS, o_neS, o_lenL, o_lenT, o_abs, o_tupL, o_tupT, o_lisL, o_lisT, o_intI, o_intB, o_ix0, o_ix1, o_ix2, o_ix3, o_it0, o_it1, o_it2, o_it3, ixPl_of, take_self, take_set, get_set, set_set', List.length_set, Nat.reduceAdd, Nat.reduceSub, List.replicate_succ, List.replicate_zero, List.set_cons_zero, List.set_cons_succ, Int.reduceToNat, Int.toNat_one, Int.toNat_zero, e3]
    refine kr _ _ ?_
    simp (disch := omega) only [w_pure, w_ofO, w_guard, w_look, w_lookN, w_lookR, w_settle, w_settleN, w_settleD, w_asInt, w_asBool, w_refOf, w_cellAt, w_newCell, w_newCellD, w_looks0, w_looks, w_var, w_con, w_glob, w_bin, w_neg, w_cmp, w_chain, w_isin, w_and, w_or, w_not, w_ifx, w_tup, w_lst, w_emp, w_idx, w_slc, w_bi, w_lrng, w_isi, w_call, w_cell, w_app, w_pop, w_popAt, w_esN, w_es, w_asN, w_as, w_oN, w_o, w_ifN, w_if, w_tgN, w_tgT, w_tgS, w_tgsN, w_tgs, w_itV, w_it1, w_it2, w_itE, w_itZ, w_asg, w_par, w_expr, w_ret, w_sife, w_stsN, w_sts1, w_brk, w_cnt, w_pass, w_leave, w_leaveN, w_leaveD, ends_ret, w_bind, w_noX, keep_dat, keep_ref, keep_newL, keep_newD, tgsLen, seqOf, exists_eq_left', exists_eq_left, exists_eq', exists_and_left, exists_const, Option.some.injEq, Option.map_some, Option.bind_some, List.getElem?_cons_zero, List.getElem?_cons_succ, List.set_cons_zero, List.set_cons_succ, List.any_cons, List.any_nil, List.map_cons, List.map_nil, List.cons_append, List.nil_append, List.length_cons, List.length_nil, PyData.int.injEq, PyData.bool.injEq, PyData.str.injEq, PyData.list.injEq, PyData.tuple.injEq, D.dat.injEq, Cell.lst.injEq, List.cons.injEq, Bool.not_true, Bool.not_false, Bool.or_false, Bool.or_true, Bool.false_or, Bool.true_or, Bool.and_true, Bool.true_and, Bool.and_false, Bool.false_and, decide_true, decide_false, decide_eq_true_eq, decide_eq_false_iff_not, true_and, and_true, false_and, and_false, Bool.false_eq_true, Bool.true_eq_false, reduceCtorEq, if_true, if_false, ite_true, ite_false, true_implies, false_implies, implies_true, forall_const, forall_eq', forall_eq, id, Bool.not_eq_true', Bool.not_eq_false', wipeE, Nat.zero_le, lim_of, lim_lt, o_addI, o_subI, o_mul, o_fdiv, o_modI, o_pow, o_addT, o_addL, o_ltI, o_leI, o_gtI, o_geI, o_eqI, o_neI, o_isN, o_notN, o_eqB, o_neB, o_eqS, o_neS, o_lenL, o_lenT, o_abs, o_tupL, o_tupT, o_lisL, o_lisT, o_intI, o_intB, o_ix0, o_ix1, o_ix2, o_ix3, o_it0, o_it1, o_it2, o_it3, ixPl_of, take_self, take_set, get_set, set_set', List.length_set, Nat.reduceAdd, Nat.reduceSub, List.replicate_succ, List.replicate_zero, List.set_cons_zero, List.set_cons_succ, Int.reduceToNat, Int.toNat_one, Int.toNat_zero]
    rw [e2] at h
    exact h
end
end MP
end L2

section L3
set_option Elab.async false
set_option linter.all false
set_option maxRecDepth 100000
set_option autoImplicit false
set_option maxHeartbeats 1000000
/-! L3: perms drawn. -/
namespace MP
open PySem
section
variable {st : Store} {A B X : Cell} {r : Store} {N : Nat}
theorem ap_0 (h : st.length = N) : (st ++ A :: r)[N]? = some A := by subst h; simp
theorem ap_1 (h : st.length = N) : (st ++ A :: B :: r)[N + 1]? = some B := by subst h; simp
theorem ap_s0 (h : st.length = N) : (st ++ A :: r).set N X = st ++ X :: r := by subst h; simp
theorem ap_s1 (h : st.length = N) : (st ++ A :: B :: r).set (N + 1) X = st ++ A :: X :: r := by subst h; simp
theorem ap_t (h : st.length = N) : (st ++ r).take N = st := by subst h; simp
theorem ap_i {i : Nat} (h : i < st.length) : (st ++ r).set i X = st.set i X ++ r := by
  rw [List.set_append_left _ _ h]
theorem ap_g {i : Nat} (h : i < st.length) : (st ++ r)[i]? = st[i]? := List.getElem?_append_left h
theorem set_same {i : Nat} (h : st[i]? = some A) : st.set i A = st := by
  obtain ⟨l, e⟩ := List.getElem?_eq_some_iff.mp h
  rw [← e, List.set_getElem_self]
theorem Fd.app {n i : Nat} (h : Fd n st i) : Fd n (st ++ r) i := by
  have l := h.lt
  obtain ⟨cs, a, b, c, e, h1⟩ := h
  exact ⟨cs, a, b, c, by rw [ap_g l]; exact e, h1⟩
theorem Fd.of {n i : Nat} (l : i < st.length) (h : Fd n (st ++ r) i) : Fd n st i := by
  obtain ⟨cs, a, b, c, e, h1⟩ := h
  exact ⟨cs, a, b, c, by rw [ap_g l] at e; exact e, h1⟩
end
theorem erase_perm : ∀ (l : List Int) (j : Nat) (h : j < l.length), (l[j] :: l.eraseIdx j).Perm l
  | [], _, h => absurd h (Nat.not_lt_zero _)
  | _ :: _, 0, _ => List.Perm.refl _
  | x :: l, j + 1, h => by
    rw [List.eraseIdx_cons_succ, List.getElem_cons_succ]
    exact (List.Perm.swap ..).trans ((erase_perm l j (by simpa using h)).cons x)
theorem eraseIdx_ints : ∀ (l : List Int) (j : Nat), (l.map PyData.int).eraseIdx j = (l.eraseIdx j).map PyData.int
  | [], _ => rfl
  | _ :: _, 0 => rfl
  | x :: l, j + 1 => by rw [List.map_cons, List.eraseIdx_cons_succ, List.eraseIdx_cons_succ, eraseIdx_ints l j]; rfl
section
variable {Xp : Exc → Store → Prop} {P : List Def} {w k f : Nat} {st : Store} {Q : D → Store → Prop}
theorem law_perm_ok {dr : Nat} (hf : P[f]? = some (d_law_perm dr)) (hd : P[dr]? = some d_law_draw) (hw : 65 ≤ w) {i n m : Nat} (hm : m ≤ 1000) (hn : n + m ≤ 2 ^ 60) (hF : Fd n st i)
    (h : ∀ (ns : List Int) c, ns.length = m → ns.Perm ((List.range m).map fun k : Nat => (k : Int)) → Fd (n + m) (st.set i c) i → Q (.dat (.tuple (ns.map .int))) (st.set i c)) : wp Xp (callF P w (k + 2) f [.ref i, .dat (.int m)]) st Q := by
  have hi := hF.lt
  refine wp_call hf rfl ?_
  simp only [d_law_perm, List.map_cons, List.map_nil, List.length_cons, List.length_nil]
  refine wp_cons fun K kn kr => ?_
  simp (disch := omega) only [w_pure, w_ofO, w_guard, w_look, w_lookN, w_lookR, w_settle, w_settleN, w_settleD, w_asInt, w_asBool, w_refOf, w_cellAt, w_newCell, w_newCellD, w_looks0, w_looks, w_var, w_con, w_glob, w_bin, w_neg, w_cmp, w_chain, w_isin, w_and, w_or, w_not, w_ifx, w_tup, w_lst, w_emp, w_idx, w_slc, w_bi, w_lrng, w_isi, w_call, w_cell, w_app, w_pop, w_popAt, w_esN, w_es, w_asN, w_as, w_oN, w_o, w_ifN, w_if, w_tgN, w_tgT, w_tgS, w_tgsN, w_tgs, w_itV, w_it1, w_it2, w_itE, w_itZ, w_asg, w_par, w_expr, w_ret, w_sife, w_stsN, w_sts1, w_brk, w_cnt, w_pass, w_leave, w_leaveN, w_leaveD, ends_ret, w_bind, w_noX, keep_dat, keep_ref, keep_newL, keep_newD, tgsLen, seqOf, exists_eq_left', exists_eq_left, exists_eq', exists_and_left, exists_const, Option.some.injEq, Option.map_some, Option.bind_some, List.getElem?_cons_zero, List.getElem?_cons_succ, List.set_cons_zero, List.set_cons_succ, List.any_cons, List.any_nil, List.map_cons, List.map_nil, List.cons_append, List.nil_append, List.length_cons, List.length_nil, PyData.int.injEq, PyData.bool.injEq, PyData.str.injEq, PyData.list.injEq, PyData.tuple.injEq, D.dat.injEq, Cell.lst.injEq, List.cons.injEq, Bool.not_true, Bool.not_false, Bool.or_false, Bool.or_true, Bool.false_or, Bool.true_or, Bool.and_true, Bool.true_and, Bool.and_false, Bool.false_and, decide_true, decide_false, decide_eq_true_eq, decide_eq_false_iff_not, true_and, and_true, false_and, and_false, Bool.false_eq_true, Bool.true_eq_false, reduceCtorEq, if_true, if_false, ite_true, ite_false, true_implies, false_implies, implies_true, forall_const, forall_eq', forall_eq, id, Bool.not_eq_true', Bool.not_eq_false', wipeE, Nat.zero_le, lim_of, lim_lt, o_addI, o_subI, o_mul, o_fdiv, o_modI, o_pow, o_addT, o_addL, o_ltI, o_leI, o_gtI, o_geI, o_eqI, o_neI, o_isN, o_notN, o_eqB, o_neB, o_eqS, o_neS, o_lenL, o_lenT, o_abs, o_tupL, o_tupT, o_lisL, o_lisT, o_intI, o_intB, o_ix0, o_ix1, o_ix2, o_ix3, o_it0, o_it1, o_it2, o_it3, ixPl_of, take_self, take_set, get_set, set_set', List.length_set, Nat.reduceAdd, Nat.reduceSub, List.replicate_succ, List.replicate_zero, List.set_cons_zero, List.set_cons_succ, Int.reduceToNat, Int.toNat_one, Int.toNat_zero, Int.toNat_natCast, ints_zero]
  refine ⟨by simp [small]; omega, kn _ _ ?_⟩
  refine wp_cons fun K kn kr => ?_
  simp (disch := omega) only [w_pure, w_ofO, w_guard, w_look, w_lookN, w_lookR, w_settle, w_settleN, w_settleD, w_asInt, w_asBool, w_refOf, w_cellAt, w_newCell, w_newCellD, w_looks0, w_looks, w_var, w_con, w_glob, w_bin, w_neg, w_cmp, w_chain, w_isin, w_and, w_or, w_not, w_ifx, w_tup, w_lst, w_emp, w_idx, w_slc, w_bi, w_lrng, w_isi, w_call, w_cell, w_app, w_pop, w_popAt, w_esN, w_es, w_asN, w_as, w_oN, w_o, w_ifN, w_if, w_tgN, w_tgT, w_tgS, w_tgsN, w_tgs, w_itV, w_it1, w_it2, w_itE, w_itZ, w_asg, w_par, w_expr, w_ret, w_sife, w_stsN, w_sts1, w_brk, w_cnt, w_pass, w_leave, w_leaveN, w_leaveD, ends_ret, w_bind, w_noX, keep_dat, keep_ref, keep_newL, keep_newD, tgsLen, seqOf, exists_eq_left', exists_eq_left, exists_eq', exists_and_left, exists_const, Option.some.injEq, Option.map_some, Option.bind_some, List.getElem?_cons_zero, List.getElem?_cons_succ, List.set_cons_zero, List.set_cons_succ, List.any_cons, List.any_nil, List.map_cons, List.map_nil, List.cons_append, List.nil_append, List.length_cons, List.length_nil, PyData.int.injEq, PyData.bool.injEq, PyData.str.injEq, PyData.list.injEq, PyData.tuple.injEq, D.dat.injEq, Cell.lst.injEq, List.cons.injEq, Bool.not_true, Bool.not_false, Bool.or_false, Bool.or_true, Bool.false_or, Bool.true_or, Bool.and_true, Bool.true_and, Bool.and_false, Bool.false_and, decide_true, decide_false, decide_eq_true_eq, decide_eq_false_iff_not, true_and, and_true, false_and, and_false, Bool.false_eq_true, Bool.true_eq_false, reduceCtorEq, if_true, if_false, ite_true, ite_false, true_implies, false_implies, implies_true, forall_const, forall_eq', forall_eq, id, Bool.not_eq_true', Bool.not_eq_false', wipeE, Nat.zero_le, lim_of, lim_lt, o_addI, o_subI, o_mul, o_fdiv, o_modI, o_pow, o_addT, o_addL, o_ltI, o_leI, o_gtI, o_geI, o_eqI, o_neI, o_isN, o_notN, o_eqB, o_neB, o_eqS, o_neS, o_lenL, o_lenT, o_abs, o_tupL, o_tupT, o_lisL, o_lisT, o_intI, o_intB, o_ix0, o_ix1, o_ix2, o_ix3, o_it0, o_it1, o_it2, o_it3, ixPl_of, take_self, take_set, get_set, set_set', List.length_set, Nat.reduceAdd, Nat.reduceSub, List.replicate_succ, List.replicate_zero, List.set_cons_zero, List.set_cons_succ, Int.reduceToNat, Int.toNat_one, Int.toNat_zero, List.append_assoc, List.length_append]
  refine kn _ _ ?_
  refine wp_cons fun K kn kr => ?_
  refine for_inv ?_
  simp (disch := omega) only [w_pure, w_ofO, w_guard, w_look, w_lookN, w_lookR, w_settle, w_settleN, w_settleD, w_asInt, w_asBool, w_refOf, w_cellAt, w_newCell, w_newCellD, w_looks0, w_looks, w_var, w_con, w_glob, w_bin, w_neg, w_cmp, w_chain, w_isin, w_and, w_or, w_not, w_ifx, w_tup, w_lst, w_emp, w_idx, w_slc, w_bi, w_lrng, w_isi, w_call, w_cell, w_app, w_pop, w_popAt, w_esN, w_es, w_asN, w_as, w_oN, w_o, w_ifN, w_if, w_tgN, w_tgT, w_tgS, w_tgsN, w_tgs, w_itV, w_it1, w_it2, w_itE, w_itZ, w_asg, w_par, w_expr, w_ret, w_sife, w_stsN, w_sts1, w_brk, w_cnt, w_pass, w_leave, w_leaveN, w_leaveD, ends_ret, w_bind, w_noX, keep_dat, keep_ref, keep_newL, keep_newD, tgsLen, seqOf, exists_eq_left', exists_eq_left, exists_eq', exists_and_left, exists_const, Option.some.injEq, Option.map_some, Option.bind_some, List.getElem?_cons_zero, List.getElem?_cons_succ, List.set_cons_zero, List.set_cons_succ, List.any_cons, List.any_nil, List.map_cons, List.map_nil, List.cons_append, List.nil_append, List.length_cons, List.length_nil, PyData.int.injEq, PyData.bool.injEq, PyData.str.injEq, PyData.list.injEq, PyData.tuple.injEq, D.dat.injEq, Cell.lst.injEq, List.cons.injEq, Bool.not_true, Bool.not_false, Bool.or_false, Bool.or_true, Bool.false_or, Bool.true_or, Bool.and_true, Bool.true_and, Bool.and_false, Bool.false_and, decide_true, decide_false, decide_eq_true_eq, decide_eq_false_iff_not, true_and, and_true, false_and, and_false, Bool.false_eq_true, Bool.true_eq_false, reduceCtorEq, if_true, if_false, ite_true, ite_false, true_implies, false_implies, implies_true, forall_const, forall_eq', forall_eq, id, Bool.not_eq_true', Bool.not_eq_false', wipeE, Nat.zero_le, lim_of, lim_lt, o_addI, o_subI, o_mul, o_fdiv, o_modI, o_pow, o_addT, o_addL, o_ltI, o_leI, o_gtI, o_geI, o_eqI, o_neI, o_isN, o_notN, o_eqB, o_neB, o_eqS, o_neS, o_lenL, o_lenT, o_abs, o_tupL, o_tupT, o_lisL, o_lisT, o_intI, o_intB, o_ix0, o_ix1, o_ix2, o_ix3, o_it0, o_it1, o_it2, o_it3, ixPl_of, take_self, take_set, get_set, set_set', List.length_set, Nat.reduceAdd, Nat.reduceSub, List.replicate_succ, List.replicate_zero, List.set_cons_zero, List.set_cons_succ, Int.reduceToNat, Int.toNat_one, Int.toNat_zero, Int.toNat_natCast, ints_zero]
  refine ⟨by simp [small]; omega, fun j ρ s => ∃ (c : Cell) (ls fs : List Int) (x : Option D), ρ = [some (.ref i), some (.dat (.int m)), some (.ref st.length), some (.ref (st.length + 1)), x] ∧ s = st.set i c ++ [.lst (ls.map .int), .lst (fs.map .int)] ∧ Fd (n + j) (st.set i c) i ∧ (fs ++ ls).Perm ((List.range m).map fun k : Nat => (k : Int)) ∧ fs.length = j, ?_, ?_, ?_⟩
  · have hF0 := hF
    obtain ⟨cs, a, b, c, e, _⟩ := hF0
    exact ⟨_, _, [], _, rfl, by rw [set_same e]; rfl, by rw [set_same e]; exact hF, List.Perm.refl _, rfl⟩
  · rintro j x ρ1 s1 hx ⟨c, ls, fs, y, rfl, rfl, hF', hp, hl⟩ K2 k2 _ _ _
    have hj : j < m := by
      obtain ⟨l, _⟩ := List.getElem?_eq_some_iff.mp hx
      simpa using l
    have hpl := hp.length_eq
    rw [List.length_append, List.length_map, List.length_range] at hpl
    have hN : (st.set i c).length = st.length := List.length_set
    have hi' : i < (st.set i c).length := by rw [hN]; exact hi
    simp (disch := omega) only [w_pure, w_ofO, w_guard, w_look, w_lookN, w_lookR, w_settle, w_settleN, w_settleD, w_asInt, w_asBool, w_refOf, w_cellAt, w_newCell, w_newCellD, w_looks0, w_looks, w_var, w_con, w_glob, w_bin, w_neg, w_cmp, w_chain, w_isin, w_and, w_or, w_not, w_ifx, w_tup, w_lst, w_emp, w_idx, w_slc, w_bi, w_lrng, w_isi, w_call, w_cell, w_app, w_pop, w_popAt, w_esN, w_es, w_asN, w_as, w_oN, w_o, w_ifN, w_if, w_tgN, w_tgT, w_tgS, w_tgsN, w_tgs, w_itV, w_it1, w_it2, w_itE, w_itZ, w_asg, w_par, w_expr, w_ret, w_sife, w_stsN, w_sts1, w_brk, w_cnt, w_pass, w_leave, w_leaveN, w_leaveD, ends_ret, w_bind, w_noX, keep_dat, keep_ref, keep_newL, keep_newD, tgsLen, seqOf, exists_eq_left', exists_eq_left, exists_eq', exists_and_left, exists_const, Option.some.injEq, Option.map_some, Option.bind_some, List.getElem?_cons_zero, List.getElem?_cons_succ, List.set_cons_zero, List.set_cons_succ, List.any_cons, List.any_nil, List.map_cons, List.map_nil, List.cons_append, List.nil_append, List.length_cons, List.length_nil, PyData.int.injEq, PyData.bool.injEq, PyData.str.injEq, PyData.list.injEq, PyData.tuple.injEq, D.dat.injEq, Cell.lst.injEq, List.cons.injEq, Bool.not_true, Bool.not_false, Bool.or_false, Bool.or_true, Bool.false_or, Bool.true_or, Bool.and_true, Bool.true_and, Bool.and_false, Bool.false_and, decide_true, decide_false, decide_eq_true_eq, decide_eq_false_iff_not, true_and, and_true, false_and, and_false, Bool.false_eq_true, Bool.true_eq_false, reduceCtorEq, if_true, if_false, ite_true, ite_false, true_implies, false_implies, implies_true, forall_const, forall_eq', forall_eq, id, Bool.not_eq_true', Bool.not_eq_false', wipeE, Nat.zero_le, lim_of, lim_lt, o_addI, o_subI, o_mul, o_fdiv, o_modI, o_pow, o_addT, o_addL, o_ltI, o_leI, o_gtI, o_geI, o_eqI, o_neI, o_isN, o_notN, o_eqB, o_neB, o_eqS, o_neS, o_lenL, o_lenT, o_abs, o_tupL, o_tupT, o_lisL, o_lisT, o_intI, o_intB, o_ix0, o_ix1, o_ix2, o_ix3, o_it0, o_it1, o_it2, o_it3, ixPl_of, take_self, take_set, get_set, set_set', List.length_set, Nat.reduceAdd, Nat.reduceSub, List.replicate_succ, List.replicate_zero, List.set_cons_zero, List.set_cons_succ, Int.reduceToNat, Int.toNat_one, Int.toNat_zero, ap_0 hN, ap_1 hN, List.length_map]
    refine draw_ok hd hw (n := n + j) (by omega) (by omega) (by omega) hF'.app fun v c' v0 v1 hF2 => ?_
    rw [ap_i hi'] at hF2 ⊢
    rw [List.set_set] at hF2 ⊢
    have hN2 : (st.set i c').length = st.length := List.length_set
    have hv : v.toNat < ls.length := by omega
    simp (disch := omega) only [w_pure, w_ofO, w_guard, w_look, w_lookN, w_lookR, w_settle, w_settleN, w_settleD, w_asInt, w_asBool, w_refOf, w_cellAt, w_newCell, w_newCellD, w_looks0, w_looks, w_var, w_con, w_glob, w_bin, w_neg, w_cmp, w_chain, w_isin, w_and, w_or, w_not, w_ifx, w_tup, w_lst, w_emp, w_idx, w_slc, w_bi, w_lrng, w_isi, w_call, w_cell, w_app, w_pop, w_popAt, w_esN, w_es, w_asN, w_as, w_oN, w_o, w_ifN, w_if, w_tgN, w_tgT, w_tgS, w_tgsN, w_tgs, w_itV, w_it1, w_it2, w_itE, w_itZ, w_asg, w_par, w_expr, w_ret, w_sife, w_stsN, w_sts1, w_brk, w_cnt, w_pass, w_leave, w_leaveN, w_leaveD, ends_ret, w_bind, w_noX, keep_dat, keep_ref, keep_newL, keep_newD, tgsLen, seqOf, exists_eq_left', exists_eq_left, exists_eq', exists_and_left, exists_const, Option.some.injEq, Option.map_some, Option.bind_some, List.getElem?_cons_zero, List.getElem?_cons_succ, List.set_cons_zero, List.set_cons_succ, List.any_cons, List.any_nil, List.map_cons, List.map_nil, List.cons_append, List.nil_append, List.length_cons, List.length_nil, PyData.int.injEq, PyData.bool.injEq, PyData.str.injEq, PyData.list.injEq, PyData.tuple.injEq, D.dat.injEq, Cell.lst.injEq, List.cons.injEq, Bool.not_true, Bool.not_false, Bool.or_false, Bool.or_true, Bool.false_or, Bool.true_or, Bool.and_true, Bool.true_and, Bool.and_false, Bool.false_and, decide_true, decide_false, decide_eq_true_eq, decide_eq_false_iff_not, true_and, and_true, false_and, and_false, Bool.false_eq_true, Bool.true_eq_false, reduceCtorEq, if_true, if_false, ite_true, ite_false, true_implies, false_implies, implies_true, forall_const, forall_eq', forall_eq, id, Bool.not_eq_true', Bool.not_eq_false', wipeE, Nat.zero_le, lim_of, lim_lt, o_addI, o_subI, o_mul, o_fdiv, o_modI, o_pow, o_addT, o_addL, o_ltI, o_leI, o_gtI, o_geI, o_eqI, o_neI, o_isN, o_notN, o_eqB, o_neB, o_eqS, o_neS, o_lenL, o_lenT, o_abs, o_tupL, o_tupT, o_lisL, o_lisT, o_intI, o_intB, o_ix0, o_ix1, o_ix2, o_ix3, o_it0, o_it1, o_it2, o_it3, ixPl_of, take_self, take_set, get_set, set_set', List.length_set, Nat.reduceAdd, Nat.reduceSub, List.replicate_succ, List.replicate_zero, List.set_cons_zero, List.set_cons_succ, Int.reduceToNat, Int.toNat_one, Int.toNat_zero, ap_0 hN2, ap_1 hN2, ap_s0 hN2, ap_s1 hN2, List.length_map, List.getElem?_map, List.getElem?_eq_getElem hv, eraseIdx_ints]
    refine k2 _ _ ⟨c', ls.eraseIdx v.toNat, fs ++ [ls[v.toNat]], _, rfl, ?_, ?_, ?_, ?_⟩
    · simp only [List.map_append, List.map_cons, List.map_nil, Option.map_some]
    · exact Fd.of (by rw [hN2]; exact hi) hF2
    · refine List.Perm.trans ?_ hp
      rw [List.append_assoc]
      exact List.Perm.append_left _ (erase_perm ls _ hv)
    · rw [List.length_append, hl]; rfl
  · rintro ρ1 s1 ⟨c, ls, fs, y, rfl, rfl, hF', hp, hl⟩
    rw [List.length_map, List.length_map, List.length_range] at hl hF'
    have hN : (st.set i c).length = st.length := List.length_set
    have hpl := hp.length_eq
    rw [List.length_append, List.length_map, List.length_range] at hpl
    have hls : ls = [] := List.eq_nil_of_length_eq_zero (by omega)
    subst hls
    rw [List.append_nil] at hp
    refine kn _ _ ?_
    simp (disch := omega) only [w_pure, w_ofO, w_guard, w_look, w_lookN, w_lookR, w_settle, w_settleN, w_settleD, w_asInt, w_asBool, w_refOf, w_cellAt, w_newCell, w_newCellD, w_looks0, w_looks, w_var, w_con, w_glob, w_bin, w_neg, w_cmp, w_chain, w_isin, w_and, w_or, w_not, w_ifx, w_tup, w_lst, w_emp, w_idx, w_slc, w_bi, w_lrng, w_isi, w_call, w_cell, w_app, w_pop, w_popAt, w_esN, w_es, w_asN, w_as, w_oN, w_o, w_ifN, w_if, w_tgN, w_tgT, w_tgS, w_tgsN, w_tgs, w_itV, w_it1, w_it2, w_itE, w_itZ, w_asg, w_par, w_expr, w_ret, w_sife, w_stsN, w_sts1, w_brk, w_cnt, w_pass, w_leave, w_leaveN, w_leaveD, ends_ret, w_bind, w_noX, keep_dat, keep_ref, keep_newL, keep_newD, tgsLen, seqOf, exists_eq_left', exists_eq_left, exists_eq', exists_and_left, exists_const, Option.some.injEq, Option.map_some, Option.bind_some, List.getElem?_cons_zero, List.getElem?_cons_succ, List.set_cons_zero, List.set_cons_succ, List.any_cons, List.any_nil, List.map_cons, List.map_nil, List.cons_append, List.nil_append, List.length_cons, List.length_nil, PyData.int.injEq, PyData.bool.injEq, PyData.str.injEq, PyData.list.injEq, PyData.tuple.injEq, D.dat.injEq, Cell.lst.injEq, List.cons.injEq, Bool.not_true, Bool.not_false, Bool.or_false, Bool.or_true, Bool.false_or, Bool.true_or, Bool.and_true, Bool.true_and, Bool.and_false, Bool.false_and, decide_true, decide_false, decide_eq_true_eq, decide_eq_false_iff_not, true_and, and_true, false_and, and_false, Bool.false_eq_true, Bool.true_eq_false, reduceCtorEq, if_true, if_false, ite_true, ite_false, true_implies, false_implies, implies_true, forall_const, forall_eq', forall_eq, id, Bool.not_eq_true', Bool.not_eq_false', wipeE, Nat.zero_le, lim_of, lim_lt, o_addI, o_subI, o_mul, o_fdiv, o_modI, o_pow, o_addT, o_addL, o_ltI, o_leI, o_gtI, o_geI, o_eqI, o_neI, o_isN, o_notN, o_eqB, o_neB, o_eqS, o_neS, o_lenL, o_lenT, o_abs, o_tupL, o_tupT, o_lisL, o_lisT, o_intI, o_intB, o_ix0, o_ix1, o_ix2, o_ix3, o_it0, o_it1, o_it2, o_it3, ixPl_of, take_self, take_set, get_set, set_set', List.length_set, Nat.reduceAdd, Nat.reduceSub, List.replicate_succ, List.replicate_zero, List.set_cons_zero, List.set_cons_succ, Int.reduceToNat, Int.toNat_one, Int.toNat_zero, ap_0 hN, ap_1 hN, ap_t hN]
    exact h fs c hl hp hF'
end
end MP
end L3

section L4
set_option Elab.async false
set_option linter.all false
set_option maxRecDepth 100000
set_option autoImplicit false
set_option maxHeartbeats 1000000
/-! L4: perms bent. -/
namespace MP
open PySem
def Good (d : PyData) : Prop := ∀ xs, d = .tuple xs → xs.length ≤ 1000 ∧ shalAll 59 xs = true
theorem ex_pick {xs : List PyData} {v : Int} {R : PyData → Prop} (h0 : 0 ≤ v) (h1 : v < xs.length) (h : ∀ d ∈ xs, R d) : ∃ d, idxV (.list xs) (.int v) = some d ∧ R d := by
  have hl : v.toNat < xs.length := by omega
  exact ⟨xs[v.toNat], by rw [o_ix h0 h1, List.getElem?_eq_getElem hl], h _ (List.getElem_mem hl)⟩
theorem ex_wrap {ns : List Int} {v : Int} {R : PyData → Prop} (h0 : 0 ≤ v) (h1 : v < ns.length) (h : ∀ z : Int, R (.int z)) : ∃ d, idxV (.tuple (ns.map .int)) (.int (v - 1)) = some d ∧ R d := by
  by_cases hv : v = 0
  · subst hv
    have hl : (0 - 1 + ((ns.map PyData.int).length : Int)).toNat < ns.length := by rw [List.length_map]; omega
    refine ⟨_, ?_, h ns[(0 - 1 + ((ns.map PyData.int).length : Int)).toNat]⟩
    show (ixPl _ _).bind _ = _
    rw [ixPl_neg (by decide) (by rw [List.length_map]; omega), Option.bind_some, List.getElem?_map, List.getElem?_eq_getElem hl]
    rfl
  · exact ⟨_, o_gett (by omega) (by omega), h _⟩
theorem good_ints {ns : List Int} (h : ns.length ≤ 1000) : Good (.tuple (ns.map .int)) := fun xs e => by
  cases e
  exact ⟨by rw [List.length_map]; exact h, shalAll_ints _ _⟩
theorem shal_up : ∀ {n : Nat} {d : PyData}, shal 0 d = true → shal n d = true := fun {n d} h => by
  cases d <;> first | (cases n <;> rfl) | cases h
section
variable {Xp : Exc → Store → Prop} {P : List Def} {w k f : Nat} {st : Store} {Q : D → Store → Prop}
theorem law_bent_ok {dr : Nat} (hf : P[f]? = some (d_law_bent dr)) (hd : P[dr]? = some d_law_draw) (hw : 65 ≤ w) {i n : Nat} {ns : List Int} (h1 : 1 ≤ ns.length) (h2 : ns.length ≤ 24) (hn : n + 3 ≤ 2 ^ 60) (hF : Fd n st i)
    (h : ∀ d c, Good d → Fd (n + 3) (st.set i c) i → Q (.dat d) (st.set i c)) : wp Xp (callF P w (k + 2) f [.ref i, .dat (.tuple (ns.map .int))]) st Q := by
  have hi := hF.lt
  refine wp_call hf rfl ?_
  simp only [d_law_bent, List.map_cons, List.map_nil, List.length_cons, List.length_nil]
  refine wp_cons fun K kn kr => ?_
  simp (disch := omega) only [w_pure, w_ofO, w_guard, w_look, w_lookN, w_lookR, w_settle, w_settleN, w_settleD, w_asInt, w_asBool, w_refOf, w_cellAt, w_newCell, w_newCellD, w_looks0, w_looks, w_var, w_con, w_glob, w_bin, w_neg, w_cmp, w_chain, w_isin, w_and, w_or, w_not, w_ifx, w_tup, w_lst, w_emp, w_idx, w_slc, w_bi, w_lrng, w_isi, w_call, w_cell, w_app, w_pop, w_popAt, w_esN, w_es, w_asN, w_as, w_oN, w_o, w_ifN, w_if, w_tgN, w_tgT, w_tgS, w_tgsN, w_tgs, w_itV, w_it1, w_it2, w_itE, w_itZ, w_asg, w_par, w_expr, w_ret, w_sife, w_stsN, w_sts1, w_brk, w_cnt, w_pass, w_leave, w_leaveN, w_leaveD, ends_ret, w_bind, w_noX, keep_dat, keep_ref, keep_newL, keep_newD, tgsLen, seqOf, exists_eq_left', exists_eq_left, exists_eq', exists_and_left, exists_const, Option.some.injEq, Option.map_some, Option.bind_some, List.getElem?_cons_zero, List.getElem?_cons_succ, List.set_cons_zero, List.set_cons_succ, List.any_cons, List.any_nil, List.map_cons, List.map_nil, List.cons_append, List.nil_append, List.length_cons, List.length_nil, PyData.int.injEq, PyData.bool.injEq, PyData.str.injEq, PyData.list.injEq, PyData.tuple.injEq, D.dat.injEq, Cell.lst.injEq, List.cons.injEq, Bool.not_true, Bool.not_false, Bool.or_false, Bool.or_true, Bool.false_or, Bool.true_or, Bool.and_true, Bool.true_and, Bool.and_false, Bool.false_and, decide_true, decide_false, decide_eq_true_eq, decide_eq_false_iff_not, true_and, and_true, false_and, and_false, Bool.false_eq_true, Bool.true_eq_false, reduceCtorEq, if_true, if_false, ite_true, ite_false, true_implies, false_implies, implies_true, forall_const, forall_eq', forall_eq, id, Bool.not_eq_true', Bool.not_eq_false', wipeE, Nat.zero_le, lim_of, lim_lt, o_addI, o_subI, o_mul, o_fdiv, o_modI, o_pow, o_addT, o_addL, o_ltI, o_leI, o_gtI, o_geI, o_eqI, o_neI, o_isN, o_notN, o_eqB, o_neB, o_eqS, o_neS, o_lenL, o_lenT, o_abs, o_tupL, o_tupT, o_lisL, o_lisT, o_intI, o_intB, o_ix0, o_ix1, o_ix2, o_ix3, o_it0, o_it1, o_it2, o_it3, ixPl_of, take_self, take_set, get_set, set_set', List.length_set, Nat.reduceAdd, Nat.reduceSub, List.replicate_succ, List.replicate_zero, List.set_cons_zero, List.set_cons_succ, Int.reduceToNat, Int.toNat_one, Int.toNat_zero, List.length_map]
  refine draw_ok hd hw (n := n) (by omega) (by omega) (by omega) hF fun v c v0 v1 hF2 => ?_
  simp (disch := omega) only [w_pure, w_ofO, w_guard, w_look, w_lookN, w_lookR, w_settle, w_settleN, w_settleD, w_asInt, w_asBool, w_refOf, w_cellAt, w_newCell, w_newCellD, w_looks0, w_looks, w_var, w_con, w_glob, w_bin, w_neg, w_cmp, w_chain, w_isin, w_and, w_or, w_not, w_ifx, w_tup, w_lst, w_emp, w_idx, w_slc, w_bi, w_lrng, w_isi, w_call, w_cell, w_app, w_pop, w_popAt, w_esN, w_es, w_asN, w_as, w_oN, w_o, w_ifN, w_if, w_tgN, w_tgT, w_tgS, w_tgsN, w_tgs, w_itV, w_it1, w_it2, w_itE, w_itZ, w_asg, w_par, w_expr, w_ret, w_sife, w_stsN, w_sts1, w_brk, w_cnt, w_pass, w_leave, w_leaveN, w_leaveD, ends_ret, w_bind, w_noX, keep_dat, keep_ref, keep_newL, keep_newD, tgsLen, seqOf, exists_eq_left', exists_eq_left, exists_eq', exists_and_left, exists_const, Option.some.injEq, Option.map_some, Option.bind_some, List.getElem?_cons_zero, List.getElem?_cons_succ, List.set_cons_zero, List.set_cons_succ, List.any_cons, List.any_nil, List.map_cons, List.map_nil, List.cons_append, List.nil_append, List.length_cons, List.length_nil, PyData.int.injEq, PyData.bool.injEq, PyData.str.injEq, PyData.list.injEq, PyData.tuple.injEq, D.dat.injEq, Cell.lst.injEq, List.cons.injEq, Bool.not_true, Bool.not_false, Bool.or_false, Bool.or_true, Bool.false_or, Bool.true_or, Bool.and_true, Bool.true_and, Bool.and_false, Bool.false_and, decide_true, decide_false, decide_eq_true_eq, decide_eq_false_iff_not, true_and, and_true, false_and, and_false, Bool.false_eq_true, Bool.true_eq_false, reduceCtorEq, if_true, if_false, ite_true, ite_false, true_implies, false_implies, implies_true, forall_const, forall_eq', forall_eq, id, Bool.not_eq_true', Bool.not_eq_false', wipeE, Nat.zero_le, lim_of, lim_lt, o_addI, o_subI, o_mul, o_fdiv, o_modI, o_pow, o_addT, o_addL, o_ltI, o_leI, o_gtI, o_geI, o_eqI, o_neI, o_isN, o_notN, o_eqB, o_neB, o_eqS, o_neS, o_lenL, o_lenT, o_abs, o_tupL, o_tupT, o_lisL, o_lisT, o_intI, o_intB, o_ix0, o_ix1, o_ix2, o_ix3, o_it0, o_it1, o_it2, o_it3, ixPl_of, take_self, take_set, get_set, set_set', List.length_set, Nat.reduceAdd, Nat.reduceSub, List.replicate_succ, List.replicate_zero, List.set_cons_zero, List.set_cons_succ, Int.reduceToNat, Int.toNat_one, Int.toNat_zero, List.length_map]
  refine kn _ _ ?_
  refine wp_cons fun K kn kr => ?_
  simp (disch := omega) only [w_pure, w_ofO, w_guard, w_look, w_lookN, w_lookR, w_settle, w_settleN, w_settleD, w_asInt, w_asBool, w_refOf, w_cellAt, w_newCell, w_newCellD, w_looks0, w_looks, w_var, w_con, w_glob, w_bin, w_neg, w_cmp, w_chain, w_isin, w_and, w_or, w_not, w_ifx, w_tup, w_lst, w_emp, w_idx, w_slc, w_bi, w_lrng, w_isi, w_call, w_cell, w_app, w_pop, w_popAt, w_esN, w_es, w_asN, w_as, w_oN, w_o, w_ifN, w_if, w_tgN, w_tgT, w_tgS, w_tgsN, w_tgs, w_itV, w_it1, w_it2, w_itE, w_itZ, w_asg, w_par, w_expr, w_ret, w_sife, w_stsN, w_sts1, w_brk, w_cnt, w_pass, w_leave, w_leaveN, w_leaveD, ends_ret, w_bind, w_noX, keep_dat, keep_ref, keep_newL, keep_newD, tgsLen, seqOf, exists_eq_left', exists_eq_left, exists_eq', exists_and_left, exists_const, Option.some.injEq, Option.map_some, Option.bind_some, List.getElem?_cons_zero, List.getElem?_cons_succ, List.set_cons_zero, List.set_cons_succ, List.any_cons, List.any_nil, List.map_cons, List.map_nil, List.cons_append, List.nil_append, List.length_cons, List.length_nil, PyData.int.injEq, PyData.bool.injEq, PyData.str.injEq, PyData.list.injEq, PyData.tuple.injEq, D.dat.injEq, Cell.lst.injEq, List.cons.injEq, Bool.not_true, Bool.not_false, Bool.or_false, Bool.or_true, Bool.false_or, Bool.true_or, Bool.and_true, Bool.true_and, Bool.and_false, Bool.false_and, decide_true, decide_false, decide_eq_true_eq, decide_eq_false_iff_not, true_and, and_true, false_and, and_false, Bool.false_eq_true, Bool.true_eq_false, reduceCtorEq, if_true, if_false, ite_true, ite_false, true_implies, false_implies, implies_true, forall_const, forall_eq', forall_eq, id, Bool.not_eq_true', Bool.not_eq_false', wipeE, Nat.zero_le, lim_of, lim_lt, o_addI, o_subI, o_mul, o_fdiv, o_modI, o_pow, o_addT, o_addL, o_ltI, o_leI, o_gtI, o_geI, o_eqI, o_neI, o_isN, o_notN, o_eqB, o_neB, o_eqS, o_neS, o_lenL, o_lenT, o_abs, o_tupL, o_tupT, o_lisL, o_lisT, o_intI, o_intB, o_ix0, o_ix1, o_ix2, o_ix3, o_it0, o_it1, o_it2, o_it3, ixPl_of, take_self, take_set, get_set, set_set', List.length_set, Nat.reduceAdd, Nat.reduceSub, List.replicate_succ, List.replicate_zero, List.set_cons_zero, List.set_cons_succ, Int.reduceToNat, Int.toNat_one, Int.toNat_zero, List.length_map]
  refine ex_wrap v0 v1 fun z => ?_
  refine draw_ok hd hw (n := n + 1) (by omega) (by omega) (by omega) hF2 fun v' c' v0' v1' hF3 => ?_
  rw [List.set_set] at hF3 ⊢
  simp (disch := omega) only [w_pure, w_ofO, w_guard, w_look, w_lookN, w_lookR, w_settle, w_settleN, w_settleD, w_asInt, w_asBool, w_refOf, w_cellAt, w_newCell, w_newCellD, w_looks0, w_looks, w_var, w_con, w_glob, w_bin, w_neg, w_cmp, w_chain, w_isin, w_and, w_or, w_not, w_ifx, w_tup, w_lst, w_emp, w_idx, w_slc, w_bi, w_lrng, w_isi, w_call, w_cell, w_app, w_pop, w_popAt, w_esN, w_es, w_asN, w_as, w_oN, w_o, w_ifN, w_if, w_tgN, w_tgT, w_tgS, w_tgsN, w_tgs, w_itV, w_it1, w_it2, w_itE, w_itZ, w_asg, w_par, w_expr, w_ret, w_sife, w_stsN, w_sts1, w_brk, w_cnt, w_pass, w_leave, w_leaveN, w_leaveD, ends_ret, w_bind, w_noX, keep_dat, keep_ref, keep_newL, keep_newD, tgsLen, seqOf, exists_eq_left', exists_eq_left, exists_eq', exists_and_left, exists_const, Option.some.injEq, Option.map_some, Option.bind_some, List.getElem?_cons_zero, List.getElem?_cons_succ, List.set_cons_zero, List.set_cons_succ, List.any_cons, List.any_nil, List.map_cons, List.map_nil, List.cons_append, List.nil_append, List.length_cons, List.length_nil, PyData.int.injEq, PyData.bool.injEq, PyData.str.injEq, PyData.list.injEq, PyData.tuple.injEq, D.dat.injEq, Cell.lst.injEq, List.cons.injEq, Bool.not_true, Bool.not_false, Bool.or_false, Bool.or_true, Bool.false_or, Bool.true_or, Bool.and_true, Bool.true_and, Bool.and_false, Bool.false_and, decide_true, decide_false, decide_eq_true_eq, decide_eq_false_iff_not, true_and, and_true, false_and, and_false, Bool.false_eq_true, Bool.true_eq_false, reduceCtorEq, if_true, if_false, ite_true, ite_false, true_implies, false_implies, implies_true, forall_const, forall_eq', forall_eq, id, Bool.not_eq_true', Bool.not_eq_false', wipeE, Nat.zero_le, lim_of, lim_lt, o_addI, o_subI, o_mul, o_fdiv, o_modI, o_pow, o_addT, o_addL, o_ltI, o_leI, o_gtI, o_geI, o_eqI, o_neI, o_isN, o_notN, o_eqB, o_neB, o_eqS, o_neS, o_lenL, o_lenT, o_abs, o_tupL, o_tupT, o_lisL, o_lisT, o_intI, o_intB, o_ix0, o_ix1, o_ix2, o_ix3, o_it0, o_it1, o_it2, o_it3, ixPl_of, take_self, take_set, get_set, set_set', List.length_set, Nat.reduceAdd, Nat.reduceSub, List.replicate_succ, List.replicate_zero, List.set_cons_zero, List.set_cons_succ, Int.reduceToNat, Int.toNat_one, Int.toNat_zero, List.length_map]
  refine ex_pick v0' v1' fun o ho => ?_
  have ho2 : shal 0 o = true := by
    simp only [List.mem_cons, List.not_mem_nil, or_false] at ho
    rcases ho with rfl | rfl | rfl | rfl | rfl | rfl | rfl <;> rfl
  refine kn _ _ ?_
  refine wp_cons fun K kn kr => ?_
  have l1 : ((ns.map PyData.int).take v.toNat).length + [o].length ≤ 100 := by simp; omega
  have l2 : ((ns.map PyData.int).take v.toNat ++ [o]).length + ((ns.map PyData.int).drop (v + 1).toNat).length ≤ 100 := by simp; omega
  have l3 : (ns.map PyData.int).length + [PyData.int ns.length].length ≤ 100 := by simp; omega
  have l4 : (ns.map PyData.int).length + (ns.map PyData.int).length ≤ 100 := by simp; omega
  simp (disch := omega) only [w_pure, w_ofO, w_guard, w_look, w_lookN, w_lookR, w_settle, w_settleN, w_settleD, w_asInt, w_asBool, w_refOf, w_cellAt, w_newCell, w_newCellD, w_looks0, w_looks, w_var, w_con, w_glob, w_bin, w_neg, w_cmp, w_chain, w_isin, w_and, w_or, w_not, w_ifx, w_tup, w_lst, w_emp, w_idx, w_slc, w_bi, w_lrng, w_isi, w_call, w_cell, w_app, w_pop, w_popAt, w_esN, w_es, w_asN, w_as, w_oN, w_o, w_ifN, w_if, w_tgN, w_tgT, w_tgS, w_tgsN, w_tgs, w_itV, w_it1, w_it2, w_itE, w_itZ, w_asg, w_par, w_expr, w_ret, w_sife, w_stsN, w_sts1, w_brk, w_cnt, w_pass, w_leave, w_leaveN, w_leaveD, ends_ret, w_bind, w_noX, keep_dat, keep_ref, keep_newL, keep_newD, tgsLen, seqOf, exists_eq_left', exists_eq_left, exists_eq', exists_and_left, exists_const, Option.some.injEq, Option.map_some, Option.bind_some, List.getElem?_cons_zero, List.getElem?_cons_succ, List.set_cons_zero, List.set_cons_succ, List.any_cons, List.any_nil, List.map_cons, List.map_nil, List.cons_append, List.nil_append, List.length_cons, List.length_nil, PyData.int.injEq, PyData.bool.injEq, PyData.str.injEq, PyData.list.injEq, PyData.tuple.injEq, D.dat.injEq, Cell.lst.injEq, List.cons.injEq, Bool.not_true, Bool.not_false, Bool.or_false, Bool.or_true, Bool.false_or, Bool.true_or, Bool.and_true, Bool.true_and, Bool.and_false, Bool.false_and, decide_true, decide_false, decide_eq_true_eq, decide_eq_false_iff_not, true_and, and_true, false_and, and_false, Bool.false_eq_true, Bool.true_eq_false, reduceCtorEq, if_true, if_false, ite_true, ite_false, true_implies, false_implies, implies_true, forall_const, forall_eq', forall_eq, id, Bool.not_eq_true', Bool.not_eq_false', wipeE, Nat.zero_le, lim_of, lim_lt, o_addI, o_subI, o_mul, o_fdiv, o_modI, o_pow, o_addT, o_addL, o_ltI, o_leI, o_gtI, o_geI, o_eqI, o_neI, o_isN, o_notN, o_eqB, o_neB, o_eqS, o_neS, o_lenL, o_lenT, o_abs, o_tupL, o_tupT, o_lisL, o_lisT, o_intI, o_intB, o_ix0, o_ix1, o_ix2, o_ix3, o_it0, o_it1, o_it2, o_it3, ixPl_of, take_self, take_set, get_set, set_set', List.length_set, Nat.reduceAdd, Nat.reduceSub, List.replicate_succ, List.replicate_zero, List.set_cons_zero, List.set_cons_succ, Int.reduceToNat, Int.toNat_one, Int.toNat_zero, List.length_map, cutV, cut_hi, cut_lo, cut_last]
  refine kn _ _ ?_
  simp (disch := omega) only [w_pure, w_ofO, w_guard, w_look, w_lookN, w_lookR, w_settle, w_settleN, w_settleD, w_asInt, w_asBool, w_refOf, w_cellAt, w_newCell, w_newCellD, w_looks0, w_looks, w_var, w_con, w_glob, w_bin, w_neg, w_cmp, w_chain, w_isin, w_and, w_or, w_not, w_ifx, w_tup, w_lst, w_emp, w_idx, w_slc, w_bi, w_lrng, w_isi, w_call, w_cell, w_app, w_pop, w_popAt, w_esN, w_es, w_asN, w_as, w_oN, w_o, w_ifN, w_if, w_tgN, w_tgT, w_tgS, w_tgsN, w_tgs, w_itV, w_it1, w_it2, w_itE, w_itZ, w_asg, w_par, w_expr, w_ret, w_sife, w_stsN, w_sts1, w_brk, w_cnt, w_pass, w_leave, w_leaveN, w_leaveD, ends_ret, w_bind, w_noX, keep_dat, keep_ref, keep_newL, keep_newD, tgsLen, seqOf, exists_eq_left', exists_eq_left, exists_eq', exists_and_left, exists_const, Option.some.injEq, Option.map_some, Option.bind_some, List.getElem?_cons_zero, List.getElem?_cons_succ, List.set_cons_zero, List.set_cons_succ, List.any_cons, List.any_nil, List.map_cons, List.map_nil, List.cons_append, List.nil_append, List.length_cons, List.length_nil, PyData.int.injEq, PyData.bool.injEq, PyData.str.injEq, PyData.list.injEq, PyData.tuple.injEq, D.dat.injEq, Cell.lst.injEq, List.cons.injEq, Bool.not_true, Bool.not_false, Bool.or_false, Bool.or_true, Bool.false_or, Bool.true_or, Bool.and_true, Bool.true_and, Bool.and_false, Bool.false_and, decide_true, decide_false, decide_eq_true_eq, decide_eq_false_iff_not, true_and, and_true, false_and, and_false, Bool.false_eq_true, Bool.true_eq_false, reduceCtorEq, if_true, if_false, ite_true, ite_false, true_implies, false_implies, implies_true, forall_const, forall_eq', forall_eq, id, Bool.not_eq_true', Bool.not_eq_false', wipeE, Nat.zero_le, lim_of, lim_lt, o_addI, o_subI, o_mul, o_fdiv, o_modI, o_pow, o_addT, o_addL, o_ltI, o_leI, o_gtI, o_geI, o_eqI, o_neI, o_isN, o_notN, o_eqB, o_neB, o_eqS, o_neS, o_lenL, o_lenT, o_abs, o_tupL, o_tupT, o_lisL, o_lisT, o_intI, o_intB, o_ix0, o_ix1, o_ix2, o_ix3, o_it0, o_it1, o_it2, o_it3, ixPl_of, take_self, take_set, get_set, set_set', List.length_set, Nat.reduceAdd, Nat.reduceSub, List.replicate_succ, List.replicate_zero, List.set_cons_zero, List.set_cons_succ, Int.reduceToNat, Int.toNat_one, Int.toNat_zero, List.length_map]
  refine draw_ok hd hw (n := n + 2) (by omega) (by omega) (by omega) hF3 fun v2 c2 w0 w1 hF4 => ?_
  rw [List.set_set] at hF4 ⊢
  simp (disch := omega) only [w_pure, w_ofO, w_guard, w_look, w_lookN, w_lookR, w_settle, w_settleN, w_settleD, w_asInt, w_asBool, w_refOf, w_cellAt, w_newCell, w_newCellD, w_looks0, w_looks, w_var, w_con, w_glob, w_bin, w_neg, w_cmp, w_chain, w_isin, w_and, w_or, w_not, w_ifx, w_tup, w_lst, w_emp, w_idx, w_slc, w_bi, w_lrng, w_isi, w_call, w_cell, w_app, w_pop, w_popAt, w_esN, w_es, w_asN, w_as, w_oN, w_o, w_ifN, w_if, w_tgN, w_tgT, w_tgS, w_tgsN, w_tgs, w_itV, w_it1, w_it2, w_itE, w_itZ, w_asg, w_par, w_expr, w_ret, w_sife, w_stsN, w_sts1, w_brk, w_cnt, w_pass, w_leave, w_leaveN, w_leaveD, ends_ret, w_bind, w_noX, keep_dat, keep_ref, keep_newL, keep_newD, tgsLen, seqOf, exists_eq_left', exists_eq_left, exists_eq', exists_and_left, exists_const, Option.some.injEq, Option.map_some, Option.bind_some, List.getElem?_cons_zero, List.getElem?_cons_succ, List.set_cons_zero, List.set_cons_succ, List.any_cons, List.any_nil, List.map_cons, List.map_nil, List.cons_append, List.nil_append, List.length_cons, List.length_nil, PyData.int.injEq, PyData.bool.injEq, PyData.str.injEq, PyData.list.injEq, PyData.tuple.injEq, D.dat.injEq, Cell.lst.injEq, List.cons.injEq, Bool.not_true, Bool.not_false, Bool.or_false, Bool.or_true, Bool.false_or, Bool.true_or, Bool.and_true, Bool.true_and, Bool.and_false, Bool.false_and, decide_true, decide_false, decide_eq_true_eq, decide_eq_false_iff_not, true_and, and_true, false_and, and_false, Bool.false_eq_true, Bool.true_eq_false, reduceCtorEq, if_true, if_false, ite_true, ite_false, true_implies, false_implies, implies_true, forall_const, forall_eq', forall_eq, id, Bool.not_eq_true', Bool.not_eq_false', wipeE, Nat.zero_le, lim_of, lim_lt, o_addI, o_subI, o_mul, o_fdiv, o_modI, o_pow, o_addT, o_addL, o_ltI, o_leI, o_gtI, o_geI, o_eqI, o_neI, o_isN, o_notN, o_eqB, o_neB, o_eqS, o_neS, o_lenL, o_lenT, o_abs, o_tupL, o_tupT, o_lisL, o_lisT, o_intI, o_intB, o_ix0, o_ix1, o_ix2, o_ix3, o_it0, o_it1, o_it2, o_it3, ixPl_of, take_self, take_set, get_set, set_set', List.length_set, Nat.reduceAdd, Nat.reduceSub, List.replicate_succ, List.replicate_zero, List.set_cons_zero, List.set_cons_succ, Int.reduceToNat, Int.toNat_one, Int.toNat_zero, List.length_map]
  refine ex_pick w0 w1 fun d hd => ?_
  refine h d c2 ?_ hF4
  have si : ∀ x ∈ ns.map PyData.int, shal 59 x = true := shalAll_mem.mp (shalAll_ints 59 ns)
  simp only [List.mem_cons, List.not_mem_nil, or_false] at hd
  rcases hd with rfl | rfl | rfl | rfl | rfl | rfl <;> intro xs e <;> cases e
  · refine ⟨by rw [List.length_append]; omega, shalAll_mem.mpr fun x hx => ?_⟩
    simp only [List.mem_append, List.mem_cons, List.not_mem_nil, or_false] at hx
    rcases hx with (hx | rfl) | hx
    · exact si x (List.mem_of_mem_take hx)
    · exact shal_up ho2
    · exact si x (List.mem_of_mem_drop hx)
  · exact ⟨by rw [List.length_dropLast, List.length_map]; omega, shalAll_mem.mpr fun x hx => si x ((List.dropLast_sublist _).subset hx)⟩
  · refine ⟨by rw [List.length_append]; omega, shalAll_mem.mpr fun x hx => ?_⟩
    simp only [List.mem_append, List.mem_cons, List.not_mem_nil, or_false] at hx
    rcases hx with hx | rfl
    · exact si x hx
    · rfl
  · refine ⟨by simp, shalAll_mem.mpr fun x hx => ?_⟩
    simp only [List.mem_cons, List.not_mem_nil, or_false] at hx
    subst hx
    exact shalAll_ints _ _
  · refine ⟨by rw [List.length_append]; omega, shalAll_mem.mpr fun x hx => ?_⟩
    rcases List.mem_append.mp hx with hx | hx <;> exact si x hx
end
end MP
end L4

section L5
set_option Elab.async false
set_option linter.all false
set_option maxRecDepth 100000
set_option autoImplicit false
set_option maxHeartbeats 1000000
/-! L5: repr of tuples of whole numbers; the law. -/
namespace MP
open PySem
theorem showAll_ints : ∀ (ns : List Int), (∀ x ∈ ns, x.natAbs < 2 ^ 100) → PyData.showableAll (ns.map .int) = true
  | [], _ => rfl
  | x :: ns, h => by
    have := log2_small (a := x) (n := 99) (by have := h x (List.mem_cons_self ..); omega)
    rw [List.map_cons, PyData.showableAll, showAll_ints ns fun y hy => h y (List.mem_cons_of_mem _ hy), PyData.showable, decide_eq_true (by omega)]
    rfl
theorem widAll_ints : ∀ (ns : List Int), (∀ x ∈ ns, x.natAbs < 2 ^ 100) → widAll (ns.map .int) ≤ 200 * ns.length
  | [], _ => Nat.le_refl _
  | x :: ns, h => by
    have := widAll_ints ns fun y hy => h y (List.mem_cons_of_mem _ hy)
    have := log2_small (a := x) (n := 99) (by have := h x (List.mem_cons_self ..); omega)
    rw [List.map_cons, widAll, wid, List.length_cons]
    omega
theorem o_reprTI {ns : List Int} (hl : ns.length ≤ 1000) (hb : ∀ x ∈ ns, x.natAbs < 2 ^ 100) : biV .repr [.tuple (ns.map .int)] = some (.dat (.str (PyData.shown (.tuple (ns.map .int))))) := by
  have h1 : shal 60 (.tuple (ns.map .int)) = true := shalAll_ints _ _
  have h2 : PyData.showable (.tuple (ns.map .int)) = true := showAll_ints _ hb
  have h3 := widAll_ints ns hb
  show (if shal 60 (.tuple (ns.map .int)) && PyData.showable (.tuple (ns.map .int)) && decide (wid (.tuple (ns.map .int)) ≤ LIM) then some _ else none) = _
  rw [h1, h2, wid, decide_eq_true (by rw [LIM]; omega)]
  rfl
end MP
end L5

section MW2
set_option Elab.async false
set_option linter.all false
set_option maxRecDepth 100000
set_option autoImplicit false
set_option maxHeartbeats 4000000
/-! MW2: walks without names: what is left of a block, of a loop, of a comprehension stands as a term of its own. -/
namespace MP
open PySem
section
variable {Xp : Exc → Store → Prop} {C : Ctx} {ρ : Env} {st s : Store} {P K : Out → Store → Prop}
/-- what is left of a block -/
def Rst (Xp : Exc → Store → Prop) (C : Ctx) (r : Sts) (P : Out → Store → Prop) : Out → Store → Prop
  | .next ρ, s => wp Xp (evSts C r ρ) s P
  | o, s => P o s
theorem wp_blk {a : St} {r : Sts} : wp Xp (evSts C (.cons a r) ρ) st P ↔ wp Xp (evSt C a ρ) st (Rst Xp C r P) := by
  rw [evSts, wp_bind]
  constructor <;> intro h <;> refine wp_mono h fun o s h => ?_
  · cases o <;> exact h
  · cases o <;> exact h
theorem rst_ret {r : Sts} {d : D} : Rst Xp C r P (.ret d) s ↔ P (.ret d) s := Iff.rfl
theorem rst_brk {r : Sts} : Rst Xp C r P (.brk ρ) s ↔ P (.brk ρ) s := Iff.rfl
theorem rst_cnt {r : Sts} : Rst Xp C r P (.cnt ρ) s ↔ P (.cnt ρ) s := Iff.rfl
theorem rst_nil : Rst Xp C .nil P (.next ρ) s ↔ P (.next ρ) s := by
  show wp Xp (evSts C .nil ρ) s P ↔ _
  rw [evSts]
  exact Iff.rfl
theorem rst_cons {a : St} {r : Sts} : Rst Xp C (.cons a r) P (.next ρ) s ↔ wp Xp (evSt C a ρ) s (Rst Xp C r P) := wp_blk
theorem ends_next {n : Nat} {Q : D → Store → Prop} : Ends Xp n Q (.next ρ) s ↔ wp Xp (leave n (.dat .none)) s Q := Iff.rfl
theorem w_par2 {i j : Nat} {a b : Ex} : wp Xp (evSt C (.par i j (.cons a (.cons b .nil))) ρ) st K ↔ wp Xp (evE C a ρ) st fun x s => wp Xp (evE C b ρ) s fun y s => K (.next ((ρ.set i (some (keep x))).set j (some (keep y)))) s := by
  rw [w_par]
  simp only [w_as, w_asN]
  constructor <;> intro h <;> refine wp_mono h fun x s h => wp_mono h fun y s h => ?_
  · obtain ⟨u, v, e, h⟩ := h
    cases e
    exact h
  · exact ⟨_, _, rfl, h⟩
/-! ### for -/
/-- a turn's end -/
def Trn (I : Env → Store → Prop) (K : Out → Store → Prop) : Out → Store → Prop
  | .next ρ, s => I ρ s
  | .cnt ρ, s => I ρ s
  | .brk ρ, s => K (.next ρ) s
  | .ret d, s => K (.ret d) s
theorem trn_brk {I : Env → Store → Prop} : Trn I K (.brk ρ) s ↔ K (.next ρ) s := Iff.rfl
theorem trn_ret {I : Env → Store → Prop} {d : D} : Trn I K (.ret d) s ↔ K (.ret d) s := Iff.rfl
theorem trn_cnt {I : Env → Store → Prop} : Trn I K (.cnt ρ) s ↔ Trn I K (.next ρ) s := Iff.rfl
theorem trn_next {I : Env → Store → Prop} (h : I ρ s) : Trn I K (.next ρ) s := h
/-- a for over what is known -/
def ForK (Xp : Exc → Store → Prop) (C : Ctx) (t : Tg) (body : Sts) (xs : List PyData) (ρ : Env) (s : Store) (K : Out → Store → Prop) : Prop := wp Xp (forGo (fun x ρ' => do
    let ρ2 ← noX (evTg C t (.dat x) ρ')
    evSts C body ρ2) xs ρ) s K
theorem w_for {t : Tg} {it : It} {body : Sts} : wp Xp (evSt C (.for_ t it body) ρ) st K ↔ wp Xp (evIt C it ρ) st fun xs s => ForK Xp C t body xs ρ s K := by
  rw [evSt, wp_bind]
  exact Iff.rfl
theorem fork_nil {t : Tg} {body : Sts} : ForK Xp C t body [] ρ s K ↔ K (.next ρ) s := Iff.rfl
theorem fork_cons {t : Tg} {body : Sts} {x : PyData} {xs : List PyData} : ForK Xp C t body (x :: xs) ρ s K ↔ wp NoX (evTg C t (.dat x) ρ) s fun ρ2 s2 => wp Xp (evSts C body ρ2) s2 (Trn (fun ρ3 s3 => ForK Xp C t body xs ρ3 s3 K) K) := by
  unfold ForK
  rw [forGo, wp_bind, wp_bind, wp_noX]
  constructor <;> intro h <;> refine wp_mono h fun ρ2 s2 h2 => wp_mono h2 fun o s3 h3 => ?_ <;> cases o <;> exact h3
/-- a for by an invariant; items are told by an encoding -/
theorem for_by {α : Type} {t : Tg} {body : Sts} {e : α → PyData} {l : List α} (I : Nat → Env → Store → Prop) (h0 : I 0 ρ s)
    (ht : ∀ (n : Nat) (x : α) (ρ1 : Env) (s1 : Store), l[n]? = some x → I n ρ1 s1 → wp NoX (evTg C t (.dat (e x)) ρ1) s1 fun ρ2 s2 => wp Xp (evSts C body ρ2) s2 (Trn (I (n + 1)) K))
    (hd : ∀ ρ1 s1, I l.length ρ1 s1 → K (.next ρ1) s1) : ForK Xp C t body (l.map e) ρ s K := by
  have key : ∀ (r : List α) (n : Nat) (ρ1 : Env) (s1 : Store), n + r.length = l.length → (∀ i x, r[i]? = some x → l[n + i]? = some x) → I n ρ1 s1 → ForK Xp C t body (r.map e) ρ1 s1 K := by
    intro r
    induction r with
    | nil =>
      intro n ρ1 s1 hn _ h
      rw [List.length_nil, Nat.add_zero] at hn
      subst hn
      exact hd _ _ h
    | cons x r ih =>
      intro n ρ1 s1 hn hx h
      rw [List.length_cons] at hn
      have hx' : ∀ i y, r[i]? = some y → l[n + 1 + i]? = some y := fun i y e => by
        have := hx (i + 1) y (by simpa using e)
        rwa [show n + (i + 1) = n + 1 + i by omega] at this
      rw [List.map_cons, fork_cons]
      refine wp_mono (ht n x ρ1 s1 (by simpa using hx 0 x rfl) h) fun ρ2 s2 h2 => wp_mono h2 fun o s3 h3 => ?_
      cases o with
      | next ρ3 => exact ih (n + 1) ρ3 s3 (by omega) hx' h3
      | cnt ρ3 => exact ih (n + 1) ρ3 s3 (by omega) hx' h3
      | brk ρ3 => exact h3
      | ret d => exact h3
  exact key l 0 ρ s (by simp) (fun i x e => by simpa using e) h0
/-- a for over range(n) -/
theorem for_rng {t : Tg} {body : Sts} {m : Nat} (I : Nat → Env → Store → Prop) (h0 : I 0 ρ s)
    (ht : ∀ (n : Nat) (ρ1 : Env) (s1 : Store), n < m → I n ρ1 s1 → wp NoX (evTg C t (.dat (.int n)) ρ1) s1 fun ρ2 s2 => wp Xp (evSts C body ρ2) s2 (Trn (I (n + 1)) K))
    (hd : ∀ ρ1 s1, I m ρ1 s1 → K (.next ρ1) s1) : ForK Xp C t body ((List.range m).map fun k : Nat => .int k) ρ s K := by
  refine for_by (e := fun k : Nat => .int k) I h0 (fun n x ρ1 s1 hx h => ?_) (by rw [List.length_range]; exact hd)
  obtain ⟨hl, e⟩ := List.getElem?_eq_some_iff.mp hx
  rw [List.length_range] at hl
  rw [List.getElem_range] at e
  subst e
  exact ht n ρ1 s1 hl h
/-! ### while -/
def WhK (Xp : Exc → Store → Prop) (C : Ctx) (c : Ex) (body : Sts) (n : Nat) (ρ : Env) (s : Store) (K : Out → Store → Prop) : Prop := wp Xp (whileGo (fun ρ' => do
      let x ← evE C c ρ'
      asBool x) (fun ρ' => evSts C body ρ') n ρ) s K
theorem w_while {c : Ex} {body : Sts} : wp Xp (evSt C (.while_ c body) ρ) st K ↔ WhK Xp C c body C.fuel ρ st K := by rw [evSt]; exact Iff.rfl
theorem while_by {c : Ex} {body : Sts} (I : Nat → Env → Store → Prop) (m : Nat) {fuel : Nat} (hm : m < fuel) (h0 : I m ρ st)
    (ht : ∀ n ρ1 s1, I n ρ1 s1 → wp Xp (evE C c ρ1) s1 fun x s2 => wp Xp (asBool x) s2 fun k s3 => (k = true → wp Xp (evSts C body ρ1) s3 (Trn (fun ρ3 s4 => ∃ n', n' < n ∧ I n' ρ3 s4) K)) ∧ (k = false → K (.next ρ1) s3)) : WhK Xp C c body fuel ρ st K := by
  have key : ∀ (fuel n : Nat) (ρ1 : Env) (s1 : Store), n < fuel → I n ρ1 s1 → WhK Xp C c body fuel ρ1 s1 K := by
    intro fuel
    induction fuel with
    | zero => intro n ρ1 s1 hn; omega
    | succ fuel ih =>
      intro n ρ1 s1 hn h
      unfold WhK
      rw [whileGo, wp_bind, wp_bind]
      refine wp_mono (ht n ρ1 s1 h) fun x s2 h2 => wp_mono h2 fun k s3 ⟨h3, h4⟩ => ?_
      cases k with
      | false => exact h4 rfl
      | true =>
        show wp Xp (evSts C body ρ1 >>= _) s3 K
        rw [wp_bind]
        refine wp_mono (h3 rfl) fun o s4 h5 => ?_
        cases o with
        | next ρ3 =>
          obtain ⟨n', l, h6⟩ := h5
          exact ih n' ρ3 s4 (by omega) h6
        | cnt ρ3 =>
          obtain ⟨n', l, h6⟩ := h5
          exact ih n' ρ3 s4 (by omega) h6
        | brk ρ3 => exact h5
        | ret d => exact h5
  exact key fuel m ρ st hm h0
/-! ### comprehensions -/
def turnM (C : Ctx) (elt : Ex) (tg : Tg) (ifs : Opt) (ρ : Env) (x : PyData) : M (Option PyData) := do
  let ρ' ← evTg C tg (.dat x) ρ
  let k ← evIf C ifs ρ'
  match k with
  | true => do
    let y ← evE C elt ρ'
    let z ← settle y
    pure (some z)
  | false => pure none
def LcK (Xp : Exc → Store → Prop) (C : Ctx) (elt : Ex) (tg : Tg) (ifs : Opt) (ρ : Env) (xs : List PyData) (s : Store) (R : List PyData → Store → Prop) : Prop := wp Xp (lcGo (fun x => noX (turnM C elt tg ifs ρ x)) xs []) s R
theorem w_lc {elt : Ex} {tg : Tg} {it : It} {ifs : Opt} {own : List (Str × Nat)} {R : D → Store → Prop} : wp Xp (evE C (.comp elt tg it ifs own) ρ) st R ↔ wp Xp (evIt C it ρ) st fun xs s => LcK Xp C elt tg ifs (wipeE ρ (own.map (·.2))) xs s fun ys s => R (.newL ys) s := by
  rw [w_comp] <;> exact Iff.rfl
/-- what a turn must show -/
def TrnK (C : Ctx) (elt : Ex) (tg : Tg) (ifs : Opt) (ρ : Env) (x : PyData) (s : Store) (R : Option PyData → Store → Prop) : Prop :=
  wp NoX (evTg C tg (.dat x) ρ) s fun ρ' s => wp NoX (evIf C ifs ρ') s fun k s => (k = true → wp NoX (evE C elt ρ') s fun y s => wp NoX (settle y) s fun z s => R (some z) s) ∧ (k = false → R none s)
theorem turn_of {elt : Ex} {tg : Tg} {ifs : Opt} {x : PyData} {R : Option PyData → Store → Prop} (h : TrnK C elt tg ifs ρ x s R) : wp Xp (noX (turnM C elt tg ifs ρ x)) s R := by
  rw [wp_noX]
  unfold turnM
  simp only [wp_bind]
  refine wp_mono h fun ρ' s h => wp_mono h fun k s ⟨h1, h2⟩ => ?_
  cases k with
  | true =>
    simp only [wp_bind]
    exact h1 rfl
  | false => exact h2 rfl
/-- every item gives one -/
theorem lc_map {α : Type} {elt : Ex} {tg : Tg} {e g : α → PyData} {l : List α} {R : List PyData → Store → Prop} (hl : l.length ≤ 1000000)
    (ht : ∀ x ∈ l, ∀ R : Option PyData → Store → Prop, R (some (g x)) s → TrnK C elt tg .none ρ (e x) s R) (h : R (l.map g) s) : LcK Xp C elt tg .none ρ (l.map e) s R := by
  have key : ∀ (xs : List α) (acc : List PyData), (∀ x ∈ xs, x ∈ l) → acc.length + xs.length ≤ LIM → R (acc ++ xs.map g) s → wp Xp (lcGo (fun x => noX (turnM C elt tg .none ρ x)) (xs.map e) acc) s R := by
    intro xs
    induction xs with
    | nil => intro acc _ _ h; simpa [lcGo, w_pure] using h
    | cons x xs ih =>
      intro acc hm hl h
      rw [List.map_cons, lcGo, wp_bind]
      rw [List.length_cons] at hl
      refine turn_of (ht x (hm x (List.mem_cons_self ..)) _ ?_)
      show wp Xp (guardB _ >>= _) s R
      rw [wp_bind]
      refine wp_guard.mpr ⟨decide_eq_true (by omega), ih _ (fun y hy => hm y (List.mem_cons_of_mem _ hy)) (by rw [List.length_append, List.length_singleton]; omega) (by rw [List.append_assoc]; exact h)⟩
  exact key l [] (fun _ h => h) (by rw [List.length_nil, LIM]; omega) h
/-- items that pass a test give one -/
theorem lc_flt {α : Type} {elt : Ex} {tg : Tg} {ifs : Opt} {e g : α → PyData} {p : α → Bool} {l : List α} {R : List PyData → Store → Prop} (hl : l.length ≤ 1000000)
    (ht : ∀ x ∈ l, ∀ R : Option PyData → Store → Prop, (p x = true → R (some (g x)) s) → (p x = false → R none s) → TrnK C elt tg ifs ρ (e x) s R) (h : R ((l.filter p).map g) s) : LcK Xp C elt tg ifs ρ (l.map e) s R := by
  have key : ∀ (xs : List α) (acc : List PyData), (∀ x ∈ xs, x ∈ l) → acc.length + xs.length ≤ LIM → R (acc ++ (xs.filter p).map g) s → wp Xp (lcGo (fun x => noX (turnM C elt tg ifs ρ x)) (xs.map e) acc) s R := by
    intro xs
    induction xs with
    | nil => intro acc _ _ h; simpa [lcGo, w_pure] using h
    | cons x xs ih =>
      intro acc hm hl h
      rw [List.map_cons, lcGo, wp_bind]
      rw [List.length_cons] at hl
      refine turn_of (ht x (hm x (List.mem_cons_self ..)) _ (fun hp => ?_) fun hp => ?_)
      · show wp Xp (guardB _ >>= _) s R
        rw [wp_bind]
        rw [List.filter_cons_of_pos hp] at h
        refine wp_guard.mpr ⟨decide_eq_true (by omega), ih _ (fun y hy => hm y (List.mem_cons_of_mem _ hy)) (by rw [List.length_append, List.length_singleton]; omega) (by rw [List.append_assoc]; exact h)⟩
      · rw [List.filter_cons_of_neg (by rw [hp]; decide)] at h
        exact ih _ (fun y hy => hm y (List.mem_cons_of_mem _ hy)) (by omega) h
  exact key l [] (fun _ h => h) (by rw [List.length_nil, LIM]; omega) h
theorem lc_map0 {elt : Ex} {tg : Tg} {g : PyData → PyData} {l : List PyData} {R : List PyData → Store → Prop} (hl : l.length ≤ 1000000)
    (ht : ∀ x ∈ l, ∀ R : Option PyData → Store → Prop, R (some (g x)) s → TrnK C elt tg .none ρ x s R) (h : R (l.map g) s) : LcK Xp C elt tg .none ρ l s R := by
  have := lc_map (Xp := Xp) (e := fun x => x) hl ht h
  rwa [List.map_id'] at this
theorem lc_flt0 {elt : Ex} {tg : Tg} {ifs : Opt} {g : PyData → PyData} {p : PyData → Bool} {l : List PyData} {R : List PyData → Store → Prop} (hl : l.length ≤ 1000000)
    (ht : ∀ x ∈ l, ∀ R : Option PyData → Store → Prop, (p x = true → R (some (g x)) s) → (p x = false → R none s) → TrnK C elt tg ifs ρ x s R) (h : R ((l.filter p).map g) s) : LcK Xp C elt tg ifs ρ l s R := by
  have := lc_flt (Xp := Xp) (e := fun x => x) hl ht h
  rwa [List.map_id'] at this
theorem for_in {t : Tg} {body : Sts} {l : List PyData} (I : Nat → Env → Store → Prop) (h0 : I 0 ρ s)
    (ht : ∀ (n : Nat) (x : PyData) (ρ1 : Env) (s1 : Store), l[n]? = some x → I n ρ1 s1 → wp NoX (evTg C t (.dat x) ρ1) s1 fun ρ2 s2 => wp Xp (evSts C body ρ2) s2 (Trn (I (n + 1)) K))
    (hd : ∀ ρ1 s1, I l.length ρ1 s1 → K (.next ρ1) s1) : ForK Xp C t body l ρ s K := by
  have := for_by (Xp := Xp) (e := fun x => x) I h0 ht hd
  rwa [List.map_id'] at this
/-- a turn's end in a comprehension -/
def TrnL (I : List PyData → Store → Prop) (acc : List PyData) : Option PyData → Store → Prop
  | some y, s => I (acc ++ [y]) s
  | none, s => I acc s
/-- turns that change the store: by an invariant of what is made so far -/
theorem lc_by {α : Type} {elt : Ex} {tg : Tg} {ifs : Opt} {e : α → PyData} {l : List α} {R : List PyData → Store → Prop} (I : Nat → List PyData → Store → Prop) (h0 : I 0 [] s) (hl : l.length ≤ 1000000) (hi : ∀ n acc s, I n acc s → acc.length ≤ n)
    (ht : ∀ (n : Nat) (x : α) (acc : List PyData) (s : Store), l[n]? = some x → I n acc s → TrnK C elt tg ifs ρ (e x) s (TrnL (I (n + 1)) acc)) (hd : ∀ acc s, I l.length acc s → R acc s) : LcK Xp C elt tg ifs ρ (l.map e) s R := by
  refine lc_inv I h0 (by rw [List.length_map, LIM]; omega) hi (fun n x acc s' hx h => ?_) (fun acc s' h => hd acc s' (by rwa [List.length_map] at h))
  rw [List.getElem?_map, Option.map_eq_some_iff] at hx
  obtain ⟨y, hy, rfl⟩ := hx
  refine wp_mono (turn_of (ht n y acc s' hy h)) fun o s2 h2 => ?_
  cases o <;> exact h2
end
/-! ### runs that come to one value -/
section
variable {Xp : Exc → Store → Prop} {α : Type} {m : M α} {st s : Store} {v : α} {Q : α → Store → Prop}
theorem runs_iff (h : ∀ R : α → Store → Prop, R v s → wp NoX m st R) : wp Xp m st Q ↔ Q v s := by
  have := h (fun a t => a = v ∧ t = s) ⟨rfl, rfl⟩
  unfold wp at this ⊢
  cases e : m st with
  | ok a t => rw [e] at this; obtain ⟨rfl, rfl⟩ := this; exact Iff.rfl
  | exc x t => rw [e] at this; exact this.elim
  | no => rw [e] at this; exact this.elim
theorem wp_call' {P : List Def} {w k f : Nat} {d : Def} {args : List D} {Q : D → Store → Prop} (hf : P[f]? = some d) (hl : args.length = d.ps.length) (hk : 0 < k)
    (h : wp (fun x s => Xp x (s.take st.length)) (evSts ⟨callF P w (k - 1), w⟩ d.body (args.map some ++ List.replicate (d.names.length - args.length) none)) st (Ends (fun x s => Xp x (s.take st.length)) st.length Q)) : wp Xp (callF P w k f args) st Q := by
  obtain ⟨j, rfl⟩ : ∃ j, k = j + 1 := ⟨k - 1, by omega⟩
  exact wp_call hf hl h
end
end MP
end MW2

section MW3
set_option Elab.async false
set_option linter.all false
set_option maxRecDepth 100000
set_option autoImplicit false
set_option maxHeartbeats 2000000

/-! MW3: the rules in one bundle. -/
namespace MP
open PySem
theorem rngL_map (n : Nat) (lo : Int) : rngL lo n = (List.range n).map fun k : Nat => PyData.int (lo + (k : Int)) := by
  rw [ints_eq, List.map_map]
  rfl
theorem zero_add_int (k : Int) : 0 + k = k := Int.zero_add k
theorem small_of {k : Int} (h : -1000000 ≤ k) (h2 : k ≤ 1000000) : small k = true := decide_eq_true ⟨h, h2⟩
theorem add_sub_one (a b : Int) : a + b - b = a := by omega
theorem rep_flat {x : PyData} : ∀ n : Nat, (List.replicate n [x]).flatten = List.replicate n x
  | 0 => rfl
  | n + 1 => by rw [List.replicate_succ, List.flatten_cons, rep_flat n]; rfl
theorem o_mulT1 {x : PyData} {k : Int} (h : -1000 ≤ k) (h2 : k ≤ 1000) : bopV .mul (.tuple [x]) (.int k) = some (.dat (.tuple (List.replicate k.toNat x))) := by
  rw [← rep_flat]
  exact if_pos ⟨h, h2, by rw [List.length_singleton]; omega⟩
theorem o_mulL1 {x : PyData} {k : Int} (h : -1000 ≤ k) (h2 : k ≤ 100000) : bopV .mul (.list [x]) (.int k) = some (.newL (List.replicate k.toNat x)) := by
  rw [← rep_flat]
  exact if_pos ⟨h, h2, by rw [List.length_singleton, LIM]; omega⟩
theorem seq_L {xs : List PyData} : seqOf (.dat (.list xs)) = some xs := rfl
theorem seq_T {xs : List PyData} : seqOf (.dat (.tuple xs)) = some xs := rfl
theorem seq_N {xs : List PyData} : seqOf (.newL xs) = some xs := rfl
section
variable {t : Ty}
theorem isi_T {xs : List PyData} : isiV t (.tuple xs) = decide (t = .tuple) := by cases t <;> rfl
theorem isi_L {xs : List PyData} : isiV t (.list xs) = decide (t = .list) := by cases t <;> rfl
theorem isi_D {xs : List (PyData × PyData)} : isiV t (.dict xs) = decide (t = .dict) := by cases t <;> rfl
theorem isi_S {xs : Str} : isiV t (.str xs) = decide (t = .str) := by cases t <;> rfl
theorem isi_I {i : Int} : isiV t (.int i) = decide (t = .int) := by cases t <;> rfl
theorem isi_B {b : Bool} : isiV t (.bool b) = (decide (t = .bool) || decide (t = .int)) := by cases t <;> rfl
theorem isi_N : isiV t .none = false := by cases t <;> rfl
end
theorem tuple_or (d : PyData) : (∃ xs, d = .tuple xs) ∨ (isiV .tuple d = false ∧ ∀ xs, d ≠ .tuple xs) := by
  cases d <;> first | exact .inl ⟨_, rfl⟩ | exact .inr ⟨rfl, fun _ e => nomatch e⟩
theorem allB_map {α : Type} {p : α → Bool} {l : List α} : biV .all [.list (l.map fun x => PyData.bool (p x))] = some (.dat (.bool (l.all p))) := by
  have := o_all (allBools_map (l.map p))
  rw [List.map_map] at this
  rw [show (fun x => PyData.bool (p x)) = PyData.bool ∘ p from rfl, this]
  simp [List.all_map]
theorem anyB_map {α : Type} {p : α → Bool} {l : List α} : biV .any [.list (l.map fun x => PyData.bool (p x))] = some (.dat (.bool (l.any p))) := by
  have := o_any (allBools_map (l.map p))
  rw [List.map_map] at this
  rw [show (fun x => PyData.bool (p x)) = PyData.bool ∘ p from rfl, this]
  simp [List.any_map]
theorem sumI_map {α : Type} {p : α → Int} {l : List α} : biV .sum [.list (l.map fun x => PyData.int (p x))] = some (.dat (.int (l.map p).sum)) := by
  have := o_sum (allInts_map (l.map p))
  rw [List.map_map] at this
  rw [show (fun x => PyData.int (p x)) = PyData.int ∘ p from rfl, this]
/-- a comprehension or walk over what has no form: items as they are -/
theorem map_id' (xs : List PyData) : xs = xs.map fun x => x := (List.map_id' xs).symm
theorem cutV_T {xs : List PyData} {lo hi : Option Int} : cutV (.tuple xs) lo hi = some (.dat (.tuple (cut xs lo hi))) := rfl
theorem cutV_L {xs : List PyData} {lo hi : Option Int} : cutV (.list xs) lo hi = some (.newL (cut xs lo hi)) := rfl
theorem succ_sub (n : Nat) : (((n + 1 : Nat) : Int) - 1).toNat = n := by omega
theorem ix_cons1 {d : PyData} {xs : List PyData} {x : Nat} (h : x < xs.length) : idxV (.tuple (d :: xs)) (.int (1 + (x : Int))) = xs[x]? := by
  rw [o_ixt (by omega) (by rw [List.length_cons]; omega), show (1 + (x : Int)).toNat = x + 1 by omega, List.getElem?_cons_succ]
theorem getm {vs : List Int} {x : Nat} (h : x < vs.length) : (vs.map PyData.int)[x]? = some (.int (vs.getD x 0)) := by
  rw [List.getElem?_map, List.getElem?_eq_getElem h, List.getD_eq_getElem?_getD, List.getElem?_eq_getElem h]
  rfl
theorem o_eqNilI {α : Type} {l : List α} {g : α → Int} : copV .eq (.list (l.map fun j => PyData.int (g j))) (.list []) = some l.isEmpty := by
  have e : (l.map fun j => PyData.int (g j)) = (l.map g).map .int := by rw [List.map_map]; rfl
  have h2 : PyData.eqvAll ((l.map g).map .int) [] = l.isEmpty := by cases l <;> rfl
  rw [e]
  simp only [copV, cmpE, shal, shalAll_ints, shalAll, PyData.eqv, h2, Bool.and_self, if_true, id]
theorem o_neNilI {α : Type} {l : List α} {g : α → Int} : copV .ne (.list (l.map fun j => PyData.int (g j))) (.list []) = some (!l.isEmpty) := by
  have e : (l.map fun j => PyData.int (g j)) = (l.map g).map .int := by rw [List.map_map]; rfl
  have h2 : PyData.eqvAll ((l.map g).map .int) [] = l.isEmpty := by cases l <;> rfl
  rw [e]
  simp only [copV, cmpE, shal, shalAll_ints, shalAll, PyData.eqv, h2, Bool.and_self, if_true]
theorem o_eqNil0 : copV .eq (.list []) (.list []) = some true := rfl
theorem o_neNil0 : copV .ne (.list []) (.list []) = some false := rfl
/-- the bundle -/
def WB := And.intro @w_pure <| And.intro @w_ofO <| And.intro @w_guard <| And.intro @w_look <| And.intro @w_lookN <| And.intro @w_lookR <| And.intro @w_settle <| And.intro @w_settleN <| And.intro @w_settleD <| And.intro @w_asInt <| And.intro @w_asBool <| And.intro @w_refOf <| And.intro @w_cellAt <| And.intro @w_newCell <| And.intro @w_newCellD <| And.intro @w_looks0 <| And.intro @w_looks <| And.intro @w_var <| And.intro @w_con <| And.intro @w_glob <| And.intro @w_bin <| And.intro @w_neg <| And.intro @w_cmp <| And.intro @w_chain <| And.intro @w_isin <| And.intro @w_and <| And.intro @w_or <| And.intro @w_not <| And.intro @w_ifx <| And.intro @w_tup <| And.intro @w_lst <| And.intro @w_emp <| And.intro @w_idx <| And.intro @w_slc <| And.intro @w_bi <| And.intro @w_lrng <| And.intro @w_isi <| And.intro @w_call <| And.intro @w_cell <| And.intro @w_app <| And.intro @w_pop <| And.intro @w_popAt <| And.intro @w_esN <| And.intro @w_es <| And.intro @w_asN <| And.intro @w_as <| And.intro @w_oN <| And.intro @w_o <| And.intro @w_ifN <| And.intro @w_if <| And.intro @w_tgN <| And.intro @w_tgT <| And.intro @w_tgS <| And.intro @w_tgsN <| And.intro @w_tgs <| And.intro @w_itV <| And.intro @w_it1 <| And.intro @w_it2 <| And.intro @w_itE <| And.intro @w_itZ <| And.intro @w_asg <| And.intro @w_par2 <| And.intro @w_expr <| And.intro @w_ret <| And.intro @w_sife <| And.intro @w_stsN <| And.intro @w_brk <| And.intro @w_cnt <| And.intro @w_pass <| And.intro @w_leave <| And.intro @w_leaveN <| And.intro @w_leaveD <| And.intro @ends_ret <| And.intro @w_bind <| And.intro @w_noX <| And.intro @keep_dat <| And.intro @keep_ref <| And.intro @keep_newL <| And.intro @keep_newD <| And.intro @lim_of <| And.intro @lim_lt <| And.intro @o_addI <| And.intro @o_subI <| And.intro @o_mul <| And.intro @o_fdiv <| And.intro @o_modI <| And.intro @o_pow <| And.intro @o_addT <| And.intro @o_addL <| And.intro @o_ltI <| And.intro @o_leI <| And.intro @o_gtI <| And.intro @o_geI <| And.intro @o_eqI <| And.intro @o_neI <| And.intro @o_isN <| And.intro @o_notN <| And.intro @o_eqB <| And.intro @o_neB <| And.intro @o_eqS <| And.intro @o_neS <| And.intro @o_lenL <| And.intro @o_lenT <| And.intro @o_abs <| And.intro @o_tupL <| And.intro @o_tupT <| And.intro @o_lisL <| And.intro @o_lisT <| And.intro @o_intI <| And.intro @o_intB <| And.intro @o_ix0 <| And.intro @o_ix1 <| And.intro @o_ix2 <| And.intro @o_ix3 <| And.intro @o_it0 <| And.intro @o_it1 <| And.intro @o_it2 <| And.intro @o_it3 <| And.intro @ixPl_of <| And.intro @take_self <| And.intro @take_set <| And.intro @get_set <| And.intro @set_set' <| And.intro @w_sts1 <| And.intro @ends_next <| And.intro @rst_ret <| And.intro @rst_brk <| And.intro @rst_cnt <| And.intro @rst_nil <| And.intro @trn_brk <| And.intro @trn_ret <| And.intro @trn_cnt <| And.intro @w_for <| And.intro @w_while <| And.intro @w_lc <| And.intro @rngL_map <| And.intro @zero_add_int <| And.intro @small_of <| And.intro @o_mulT1 <| And.intro @o_mulL1 <| And.intro @seq_L <| And.intro @seq_T <| And.intro @seq_N <| And.intro @isi_T <| And.intro @isi_L <| And.intro @isi_D <| And.intro @isi_S <| And.intro @isi_I <| And.intro @isi_B <| And.intro @isi_N <| And.intro @allB_map <| And.intro @anyB_map <| And.intro @o_anyT <| And.intro @sumI_map <| And.intro @cutV_T <| And.intro @cutV_L <| And.intro @succ_sub <| And.intro @ix_cons1 <| And.intro @getm <| And.intro @o_eqNilI <| And.intro @o_neNilI <| And.intro @o_eqNil0 <| And.intro @o_neNil0 <| @add_sub_one
end MP
end MW3

section K1
set_option Elab.async false
set_option linter.all false
set_option maxRecDepth 100000
set_option autoImplicit false
set_option maxHeartbeats 2000000

/-! K1: greatest divisors, places, whole numbers. -/
namespace MP
open PySem
local macro_rules
  | `(tactic| array_get_dec) => `(tactic| simp (disch := first | assumption | omega | (simp only [List.length_replicate, List.length_map, List.length_range, List.length_append, List.length_cons, List.length_nil, List.length_set, List.length_take, List.length_drop, List.length_dropLast]; omega)) only [WB, tgsLen, exists_eq_left', exists_eq_left, exists_eq', Option.some.injEq, Option.map_some, Option.bind_some, List.getElem?_cons_zero, List.getElem?_cons_succ, List.set_cons_zero, List.set_cons_succ, List.any_cons, List.any_nil, List.map_cons, List.map_nil, List.cons_append, List.nil_append, List.length_cons, List.length_nil, PyData.int.injEq, PyData.bool.injEq, PyData.str.injEq, PyData.list.injEq, PyData.tuple.injEq, D.dat.injEq, Cell.lst.injEq, List.cons.injEq, Bool.not_true, Bool.not_false, Bool.or_false, Bool.or_true, Bool.false_or, Bool.true_or, Bool.and_true, Bool.true_and, Bool.and_false, Bool.false_and, decide_true, decide_false, decide_eq_true_eq, decide_eq_false_iff_not, true_and, and_true, false_and, and_false, Bool.false_eq_true, Bool.true_eq_false, reduceCtorEq, if_true, if_false, ite_true, ite_false, true_implies, false_implies, implies_true, forall_const, forall_eq', forall_eq, id, Bool.not_eq_true', Bool.not_eq_false', wipeE, Nat.zero_le, List.length_set, Nat.reduceAdd, Nat.reduceSub, List.replicate_succ, List.replicate_zero, Int.reduceToNat, Int.toNat_one, Int.toNat_zero, List.length_map, List.length_range, Int.toNat_natCast, TrnK, and_assoc, cut_hi, cut_lo, cut_last, List.drop_succ_cons, List.drop_zero])
local macro_rules
  | `(tactic| sizeOf_list_dec) => `(tactic| ((try array_get_dec); repeat' (first
    | (rw [rst_cons]; array_get_dec)
    | (rw [wp_blk]; array_get_dec)
    | (refine And.intro (fun _ => ?_) (fun _ => ?_) <;> try array_get_dec))))

def d_shared : Def := ⟨"shared", ["one", "other"], ["one", "other"],
  .cons (.while_ (.cmp .gt (.var 1) (.con (.int 0))) (.cons (.par 0 1 (.cons (.var 1) (.cons (.bin .mod (.var 0) (.var 1)) .nil))) .nil))
    (.cons (.ret (.var 0)) .nil)⟩

def d_places (i_shared : Nat) : Def := ⟨"places", ["n"], ["n", "k"],
  .cons (.ret (.bi .len (.cons (.comp (.var 1) (.name 1) (.rng2 (.con (.int 1)) (.bin .add (.var 0) (.con (.int 1)))) (.some (.cmp .eq (.call i_shared (.cons (.var 1) (.cons (.var 0) .nil))) (.con (.int 1)))) [("k", 1)]) .nil))) .nil⟩

def d_whole (i_places : Nat) : Def := ⟨"whole", ["n", "k"], ["n", "k"],
  .cons (.ret (.bin .add (.tup (.cons (.var 1) .nil)) (.bin .mul (.tup (.cons (.con (.int 0)) .nil)) (.bin .sub (.call i_places (.cons (.var 0) .nil)) (.con (.int 1)))))) .nil⟩

def d_is_number (i_is_whole : Nat) (i_places : Nat) : Def := ⟨"is_number", ["n", "thing"], ["n", "thing", "one"],
  .cons (.ret (.and (.isi (.var 1) [.tuple] false) (.and (.cmp .eq (.bi .len (.cons (.var 1) .nil)) (.call i_places (.cons (.var 0) .nil))) (.bi .all (.cons (.comp (.call i_is_whole (.cons (.var 2) .nil)) (.name 2) (.val (.var 1)) .none [("one", 2)]) .nil))))) .nil⟩

def d_whole_of : Def := ⟨"whole_of", ["one"], ["one"],
  .cons (.ret (.ife (.not (.bi .any (.cons (.slc (.var 0) (.some (.con (.int 1))) .none) .nil))) (.idx (.var 0) (.con (.int 0))) (.con (.none)))) .nil⟩

def phi (n : Nat) : Nat := ((List.range n).filter fun k : Nat => decide ((Int.gcd (1 + (k : Int)) n : Int) = 1)).length
theorem phi_le (n : Nat) : phi n ≤ n := by
  have := List.length_filter_le (fun k : Nat => decide ((Int.gcd (1 + (k : Int)) n : Int) = 1)) (List.range n)
  rwa [List.length_range] at this
theorem phi_pos {n : Nat} (h : 1 ≤ n) : 1 ≤ phi n := by
  have : 0 ∈ (List.range n).filter fun k : Nat => decide ((Int.gcd (1 + (k : Int)) n : Int) = 1) := List.mem_filter.mpr ⟨List.mem_range.mpr h, by simp⟩
  exact List.length_pos_of_mem this
section
variable {Xp : Exc → Store → Prop} {P : List Def} {w k f : Nat} {st : Store} {Q : D → Store → Prop}
theorem shared_n (hf : P[f]? = some d_shared) (hk : 0 < k) {a b : Nat} (hb : b < w) : wp Xp (callF P w k f [.dat (.int a), .dat (.int b)]) st Q ↔ Q (.dat (.int (Nat.gcd a b : Nat))) st := runs_iff fun R hR => by
  refine wp_call' hf rfl (by omega) ?_; simp only [d_shared, List.map_cons, List.map_nil, List.length_cons, List.length_nil]; rw [wp_blk]
  sizeOf_list_dec
  refine while_by (fun n ρ s => ∃ x y : Nat, ρ = [some (.dat (.int x)), some (.dat (.int y))] ∧ s = st ∧ Nat.gcd x y = Nat.gcd a b ∧ n = y) b hb ⟨a, b, rfl, rfl, rfl, rfl⟩ ?_
  rintro n ρ1 s1 ⟨x, y, rfl, rfl, h1, rfl⟩
  array_get_dec
  sizeOf_list_dec
  · exact ⟨x % n, Nat.mod_lt _ (by omega), n, x % n, by rw [Int.natCast_emod], rfl, by rw [← h1, Nat.gcd_comm x n, Nat.gcd_rec n x, Nat.gcd_comm], rfl⟩
  · have : n = 0 := by omega
    subst this
    rw [Nat.gcd_zero_right] at h1
    rw [h1]
    exact hR
theorem shared_w (hf : P[f]? = some d_shared) (hk : 0 < k) {a b : Int} (ha : 0 ≤ a) (hb : 0 ≤ b) (hw : b < w) : wp Xp (callF P w k f [.dat (.int a), .dat (.int b)]) st Q ↔ Q (.dat (.int (Int.gcd a b : Nat))) st := by
  obtain ⟨x, rfl⟩ := Int.eq_ofNat_of_zero_le ha
  obtain ⟨y, rfl⟩ := Int.eq_ofNat_of_zero_le hb
  exact shared_n hf hk (by omega)
theorem places_w {i1 : Nat} (hf : P[f]? = some (d_places i1)) (h1 : P[i1]? = some d_shared) (hk : 1 < k) {n : Nat} (hn : n < w) (hn2 : n ≤ 100000) : wp Xp (callF P w k f [.dat (.int n)]) st Q ↔ Q (.dat (.int (phi n : Nat))) st := runs_iff fun R hR => by
  refine wp_call' hf rfl (by omega) ?_; simp only [d_places, List.map_cons, List.map_nil, List.length_cons, List.length_nil]; rw [wp_blk]
  sizeOf_list_dec
  refine lc_flt (p := fun k : Nat => decide ((Int.gcd (1 + (k : Int)) n : Int) = 1)) (g := fun k : Nat => .int (1 + (k : Int))) ?_ (fun x hx R h1 h2 => ?_) ?_
  · exact (by first | omega | (simp only [List.length_range, List.length_map, List.length_replicate, List.length_append, List.length_cons, List.length_nil]; omega))
  · simp (disch := first | assumption | omega | (simp only [List.length_replicate, List.length_map, List.length_range, List.length_append, List.length_cons, List.length_nil, List.length_set, List.length_take, List.length_drop, List.length_dropLast]; omega)) only [WB, tgsLen, exists_eq_left', exists_eq_left, exists_eq', Option.some.injEq, Option.map_some, Option.bind_some, List.getElem?_cons_zero, List.getElem?_cons_succ, List.set_cons_zero, List.set_cons_succ, List.any_cons, List.any_nil, List.map_cons, List.map_nil, List.cons_append, List.nil_append, List.length_cons, List.length_nil, PyData.int.injEq, PyData.bool.injEq, PyData.str.injEq, PyData.list.injEq, PyData.tuple.injEq, D.dat.injEq, Cell.lst.injEq, List.cons.injEq, Bool.not_true, Bool.not_false, Bool.or_false, Bool.or_true, Bool.false_or, Bool.true_or, Bool.and_true, Bool.true_and, Bool.and_false, Bool.false_and, decide_true, decide_false, decide_eq_true_eq, decide_eq_false_iff_not, true_and, and_true, false_and, and_false, Bool.false_eq_true, Bool.true_eq_false, reduceCtorEq, if_true, if_false, ite_true, ite_false, true_implies, false_implies, implies_true, forall_const, forall_eq', forall_eq, id, Bool.not_eq_true', Bool.not_eq_false', wipeE, Nat.zero_le, List.length_set, Nat.reduceAdd, Nat.reduceSub, List.replicate_succ, List.replicate_zero, Int.reduceToNat, Int.toNat_one, Int.toNat_zero, List.length_map, List.length_range, Int.toNat_natCast, TrnK, and_assoc, cut_hi, cut_lo, cut_last, List.drop_succ_cons, List.drop_zero, shared_w]
    exact ⟨fun h => h1 (by simpa using h), fun h => h2 (by simpa using h)⟩
  · array_get_dec
    exact hR
theorem whole_w {i1 i2 : Nat} (hf : P[f]? = some (d_whole i1)) (h1 : P[i1]? = some (d_places i2)) (h2 : P[i2]? = some d_shared) (hk : 2 < k) {n : Nat} {v : Int} (h0 : 1 ≤ n) (hn : n < w) (hn2 : n ≤ 1000) : wp Xp (callF P w k f [.dat (.int n), .dat (.int v)]) st Q ↔ Q (.dat (.tuple ((v :: List.replicate (phi n - 1) 0).map .int))) st := runs_iff fun R hR => by
  have := phi_le n
  have := phi_pos h0
  refine wp_call' hf rfl (by omega) ?_; simp only [d_whole, List.map_cons, List.map_nil, List.length_cons, List.length_nil]; rw [wp_blk]
  sizeOf_list_dec
  simp (disch := first | assumption | omega | (simp only [List.length_replicate, List.length_map, List.length_range, List.length_append, List.length_cons, List.length_nil, List.length_set, List.length_take, List.length_drop, List.length_dropLast]; omega)) only [WB, tgsLen, exists_eq_left', exists_eq_left, exists_eq', Option.some.injEq, Option.map_some, Option.bind_some, List.getElem?_cons_zero, List.getElem?_cons_succ, List.set_cons_zero, List.set_cons_succ, List.any_cons, List.any_nil, List.map_cons, List.map_nil, List.cons_append, List.nil_append, List.length_cons, List.length_nil, PyData.int.injEq, PyData.bool.injEq, PyData.str.injEq, PyData.list.injEq, PyData.tuple.injEq, D.dat.injEq, Cell.lst.injEq, List.cons.injEq, Bool.not_true, Bool.not_false, Bool.or_false, Bool.or_true, Bool.false_or, Bool.true_or, Bool.and_true, Bool.true_and, Bool.and_false, Bool.false_and, decide_true, decide_false, decide_eq_true_eq, decide_eq_false_iff_not, true_and, and_true, false_and, and_false, Bool.false_eq_true, Bool.true_eq_false, reduceCtorEq, if_true, if_false, ite_true, ite_false, true_implies, false_implies, implies_true, forall_const, forall_eq', forall_eq, id, Bool.not_eq_true', Bool.not_eq_false', wipeE, Nat.zero_le, List.length_set, Nat.reduceAdd, Nat.reduceSub, List.replicate_succ, List.replicate_zero, Int.reduceToNat, Int.toNat_one, Int.toNat_zero, List.length_map, List.length_range, Int.toNat_natCast, TrnK, and_assoc, cut_hi, cut_lo, cut_last, List.drop_succ_cons, List.drop_zero, places_w, List.length_replicate]
  rw [List.map_cons, List.map_replicate] at hR
  rwa [show ((phi n : Int) - 1).toNat = phi n - 1 by omega]
theorem is_whole_w (hf : P[f]? = some d_is_whole) (hk : 0 < k) {d : PyData} : wp Xp (callF P w k f [.dat d]) st Q ↔ Q (.dat (.bool (isWhole d))) st := runs_iff fun R hR => by
  refine wp_call' hf rfl (by omega) ?_; simp only [d_is_whole, List.map_cons, List.map_nil, List.length_cons, List.length_nil]; rw [wp_blk]
  sizeOf_list_dec
  all_goals cases d <;> simp_all [isiV, tyOf, isWhole]
/-- numbers of n -/
def isNum (n : Nat) : PyData → Bool
  | .tuple xs => decide (xs.length = phi n) && xs.all isWhole
  | _ => false
theorem is_number_w {iw ip i2 : Nat} (hf : P[f]? = some (d_is_number iw ip)) (h1 : P[ip]? = some (d_places i2)) (h2 : P[i2]? = some d_shared) (h3 : P[iw]? = some d_is_whole) (hk : 2 < k) {n : Nat} {d : PyData} (hn : n < w) (hn2 : n ≤ 1000) : wp Xp (callF P w k f [.dat (.int n), .dat d]) st Q ↔ Q (.dat (.bool (isNum n d))) st := runs_iff fun R hR => by
  have := phi_le n
  refine wp_call' hf rfl (by omega) ?_; simp only [d_is_number, List.map_cons, List.map_nil, List.length_cons, List.length_nil]; rw [wp_blk]
  rcases tuple_or d with ⟨xs, rfl⟩ | ⟨e, e'⟩
  · sizeOf_list_dec
    simp (disch := first | assumption | omega | (simp only [List.length_replicate, List.length_map, List.length_range, List.length_append, List.length_cons, List.length_nil, List.length_set, List.length_take, List.length_drop, List.length_dropLast]; omega)) only [WB, tgsLen, exists_eq_left', exists_eq_left, exists_eq', Option.some.injEq, Option.map_some, Option.bind_some, List.getElem?_cons_zero, List.getElem?_cons_succ, List.set_cons_zero, List.set_cons_succ, List.any_cons, List.any_nil, List.map_cons, List.map_nil, List.cons_append, List.nil_append, List.length_cons, List.length_nil, PyData.int.injEq, PyData.bool.injEq, PyData.str.injEq, PyData.list.injEq, PyData.tuple.injEq, D.dat.injEq, Cell.lst.injEq, List.cons.injEq, Bool.not_true, Bool.not_false, Bool.or_false, Bool.or_true, Bool.false_or, Bool.true_or, Bool.and_true, Bool.true_and, Bool.and_false, Bool.false_and, decide_true, decide_false, decide_eq_true_eq, decide_eq_false_iff_not, true_and, and_true, false_and, and_false, Bool.false_eq_true, Bool.true_eq_false, reduceCtorEq, if_true, if_false, ite_true, ite_false, true_implies, false_implies, implies_true, forall_const, forall_eq', forall_eq, id, Bool.not_eq_true', Bool.not_eq_false', wipeE, Nat.zero_le, List.length_set, Nat.reduceAdd, Nat.reduceSub, List.replicate_succ, List.replicate_zero, Int.reduceToNat, Int.toNat_one, Int.toNat_zero, List.length_map, List.length_range, Int.toNat_natCast, TrnK, and_assoc, cut_hi, cut_lo, cut_last, List.drop_succ_cons, List.drop_zero, places_w]
    sizeOf_list_dec
    · rename_i h
      refine lc_map0 (g := fun d => .bool (isWhole d)) (by first | omega | (simp only [List.length_range, List.length_map, List.length_replicate, List.length_append, List.length_cons, List.length_nil]; omega)) (fun x hx R h => ?_) ?_
      · simp (disch := first | assumption | omega | (simp only [List.length_replicate, List.length_map, List.length_range, List.length_append, List.length_cons, List.length_nil, List.length_set, List.length_take, List.length_drop, List.length_dropLast]; omega)) only [WB, tgsLen, exists_eq_left', exists_eq_left, exists_eq', Option.some.injEq, Option.map_some, Option.bind_some, List.getElem?_cons_zero, List.getElem?_cons_succ, List.set_cons_zero, List.set_cons_succ, List.any_cons, List.any_nil, List.map_cons, List.map_nil, List.cons_append, List.nil_append, List.length_cons, List.length_nil, PyData.int.injEq, PyData.bool.injEq, PyData.str.injEq, PyData.list.injEq, PyData.tuple.injEq, D.dat.injEq, Cell.lst.injEq, List.cons.injEq, Bool.not_true, Bool.not_false, Bool.or_false, Bool.or_true, Bool.false_or, Bool.true_or, Bool.and_true, Bool.true_and, Bool.and_false, Bool.false_and, decide_true, decide_false, decide_eq_true_eq, decide_eq_false_iff_not, true_and, and_true, false_and, and_false, Bool.false_eq_true, Bool.true_eq_false, reduceCtorEq, if_true, if_false, ite_true, ite_false, true_implies, false_implies, implies_true, forall_const, forall_eq', forall_eq, id, Bool.not_eq_true', Bool.not_eq_false', wipeE, Nat.zero_le, List.length_set, Nat.reduceAdd, Nat.reduceSub, List.replicate_succ, List.replicate_zero, Int.reduceToNat, Int.toNat_one, Int.toNat_zero, List.length_map, List.length_range, Int.toNat_natCast, TrnK, and_assoc, cut_hi, cut_lo, cut_last, List.drop_succ_cons, List.drop_zero, is_whole_w]
        exact h
      · array_get_dec
        simpa [isNum, show xs.length = phi n by omega] using hR
    · rename_i h
      simpa [isNum, show ¬ xs.length = phi n by omega] using hR
  · have e2 : isNum n d = false := by cases d <;> first | rfl | exact (e' _ rfl).elim
    rw [e2] at hR
    simp (disch := first | assumption | omega | (simp only [List.length_replicate, List.length_map, List.length_range, List.length_append, List.length_cons, List.length_nil, List.length_set, List.length_take, List.length_drop, List.length_dropLast]; omega)) only [WB, tgsLen, exists_eq_left', exists_eq_left, exists_eq', Option.some.injEq, Option.map_some, Option.bind_some, List.getElem?_cons_zero, List.getElem?_cons_succ, List.set_cons_zero, List.set_cons_succ, List.any_cons, List.any_nil, List.map_cons, List.map_nil, List.cons_append, List.nil_append, List.length_cons, List.length_nil, PyData.int.injEq, PyData.bool.injEq, PyData.str.injEq, PyData.list.injEq, PyData.tuple.injEq, D.dat.injEq, Cell.lst.injEq, List.cons.injEq, Bool.not_true, Bool.not_false, Bool.or_false, Bool.or_true, Bool.false_or, Bool.true_or, Bool.and_true, Bool.true_and, Bool.and_false, Bool.false_and, decide_true, decide_false, decide_eq_true_eq, decide_eq_false_iff_not, true_and, and_true, false_and, and_false, Bool.false_eq_true, Bool.true_eq_false, reduceCtorEq, if_true, if_false, ite_true, ite_false, true_implies, false_implies, implies_true, forall_const, forall_eq', forall_eq, id, Bool.not_eq_true', Bool.not_eq_false', wipeE, Nat.zero_le, List.length_set, Nat.reduceAdd, Nat.reduceSub, List.replicate_succ, List.replicate_zero, Int.reduceToNat, Int.toNat_one, Int.toNat_zero, List.length_map, List.length_range, Int.toNat_natCast, TrnK, and_assoc, cut_hi, cut_lo, cut_last, List.drop_succ_cons, List.drop_zero, e]
    sizeOf_list_dec
    exact hR
theorem whole_of_w (hf : P[f]? = some d_whole_of) (hk : 0 < k) {v : Int} {vs : List Int} : wp Xp (callF P w k f [.dat (.tuple (.int v :: vs.map .int))]) st Q ↔ Q (.dat (if vs.any (· != 0) then .none else .int v)) st := runs_iff fun R hR => by
  refine wp_call' hf rfl (by omega) ?_; simp only [d_whole_of, List.map_cons, List.map_nil, List.length_cons, List.length_nil]; rw [wp_blk]
  sizeOf_list_dec
  · rename_i h
    simpa [h] using hR
  · rename_i h
    simpa [h] using hR
/-! ### the law's own -/
def d_law_gcd : Def := ⟨"_law_gcd", ["_law_one", "_law_other"], ["_law_one", "_law_other"],
  .cons (.while_ (.cmp .gt (.var 1) (.con (.int 0))) (.cons (.par 0 1 (.cons (.var 1) (.cons (.bin .mod (.var 0) (.var 1)) .nil))) .nil))
    (.cons (.ret (.var 0)) .nil)⟩

def d_law_places (i_law_gcd : Nat) : Def := ⟨"_law_places", ["_law_n_here"], ["_law_n_here", "_law_k"],
  .cons (.ret (.bi .len (.cons (.comp (.var 1) (.name 1) (.rng2 (.con (.int 1)) (.bin .add (.var 0) (.con (.int 1)))) (.some (.cmp .eq (.call i_law_gcd (.cons (.var 1) (.cons (.var 0) .nil))) (.con (.int 1)))) [("_law_k", 1)]) .nil))) .nil⟩

def d_law_is_number (i_law_places : Nat) : Def := ⟨"_law_is_number", ["_law_n_here", "_law_thing"], ["_law_n_here", "_law_thing", "_law_one"],
  .cons (.ife (.or (.not (.isi (.var 1) [.tuple] false)) (.cmp .ne (.bi .len (.cons (.var 1) .nil)) (.call i_law_places (.cons (.var 0) .nil)))) (.cons (.ret (.con (.bool false))) .nil) (.nil))
    (.cons (.ret (.cmp .eq (.comp (.var 2) (.name 2) (.val (.var 1)) (.some (.or (.isi (.var 2) [.bool] false) (.not (.isi (.var 2) [.int] false)))) [("_law_one", 2)]) (.lst (.nil)))) .nil)⟩

theorem law_gcd_n (hf : P[f]? = some d_law_gcd) (hk : 0 < k) {a b : Nat} (hb : b < w) : wp Xp (callF P w k f [.dat (.int a), .dat (.int b)]) st Q ↔ Q (.dat (.int (Nat.gcd a b : Nat))) st := runs_iff fun R hR => by
  refine wp_call' hf rfl (by omega) ?_; simp only [d_law_gcd, List.map_cons, List.map_nil, List.length_cons, List.length_nil]; rw [wp_blk]
  sizeOf_list_dec
  refine while_by (fun n ρ s => ∃ x y : Nat, ρ = [some (.dat (.int x)), some (.dat (.int y))] ∧ s = st ∧ Nat.gcd x y = Nat.gcd a b ∧ n = y) b hb ⟨a, b, rfl, rfl, rfl, rfl⟩ ?_
  rintro n ρ1 s1 ⟨x, y, rfl, rfl, h1, rfl⟩
  array_get_dec
  sizeOf_list_dec
  · exact ⟨x % n, Nat.mod_lt _ (by omega), n, x % n, by rw [Int.natCast_emod], rfl, by rw [← h1, Nat.gcd_comm x n, Nat.gcd_rec n x, Nat.gcd_comm], rfl⟩
  · have : n = 0 := by omega
    subst this
    rw [Nat.gcd_zero_right] at h1
    rw [h1]
    exact hR
theorem law_gcd_w (hf : P[f]? = some d_law_gcd) (hk : 0 < k) {a b : Int} (ha : 0 ≤ a) (hb : 0 ≤ b) (hw : b < w) : wp Xp (callF P w k f [.dat (.int a), .dat (.int b)]) st Q ↔ Q (.dat (.int (Int.gcd a b : Nat))) st := by
  obtain ⟨x, rfl⟩ := Int.eq_ofNat_of_zero_le ha
  obtain ⟨y, rfl⟩ := Int.eq_ofNat_of_zero_le hb
  exact law_gcd_n hf hk (by omega)
theorem law_places_w {i1 : Nat} (hf : P[f]? = some (d_law_places i1)) (h1 : P[i1]? = some d_law_gcd) (hk : 1 < k) {n : Nat} (hn : n < w) (hn2 : n ≤ 100000) : wp Xp (callF P w k f [.dat (.int n)]) st Q ↔ Q (.dat (.int (phi n : Nat))) st := runs_iff fun R hR => by
  refine wp_call' hf rfl (by omega) ?_; simp only [d_law_places, List.map_cons, List.map_nil, List.length_cons, List.length_nil]; rw [wp_blk]
  sizeOf_list_dec
  refine lc_flt (p := fun k : Nat => decide ((Int.gcd (1 + (k : Int)) n : Int) = 1)) (g := fun k : Nat => .int (1 + (k : Int))) ?_ (fun x hx R h1 h2 => ?_) ?_
  · exact (by first | omega | (simp only [List.length_range, List.length_map, List.length_replicate, List.length_append, List.length_cons, List.length_nil]; omega))
  · simp (disch := first | assumption | omega | (simp only [List.length_replicate, List.length_map, List.length_range, List.length_append, List.length_cons, List.length_nil, List.length_set, List.length_take, List.length_drop, List.length_dropLast]; omega)) only [WB, tgsLen, exists_eq_left', exists_eq_left, exists_eq', Option.some.injEq, Option.map_some, Option.bind_some, List.getElem?_cons_zero, List.getElem?_cons_succ, List.set_cons_zero, List.set_cons_succ, List.any_cons, List.any_nil, List.map_cons, List.map_nil, List.cons_append, List.nil_append, List.length_cons, List.length_nil, PyData.int.injEq, PyData.bool.injEq, PyData.str.injEq, PyData.list.injEq, PyData.tuple.injEq, D.dat.injEq, Cell.lst.injEq, List.cons.injEq, Bool.not_true, Bool.not_false, Bool.or_false, Bool.or_true, Bool.false_or, Bool.true_or, Bool.and_true, Bool.true_and, Bool.and_false, Bool.false_and, decide_true, decide_false, decide_eq_true_eq, decide_eq_false_iff_not, true_and, and_true, false_and, and_false, Bool.false_eq_true, Bool.true_eq_false, reduceCtorEq, if_true, if_false, ite_true, ite_false, true_implies, false_implies, implies_true, forall_const, forall_eq', forall_eq, id, Bool.not_eq_true', Bool.not_eq_false', wipeE, Nat.zero_le, List.length_set, Nat.reduceAdd, Nat.reduceSub, List.replicate_succ, List.replicate_zero, Int.reduceToNat, Int.toNat_one, Int.toNat_zero, List.length_map, List.length_range, Int.toNat_natCast, TrnK, and_assoc, cut_hi, cut_lo, cut_last, List.drop_succ_cons, List.drop_zero, law_gcd_w]
    exact ⟨fun h => h1 (by simpa using h), fun h => h2 (by simpa using h)⟩
  · array_get_dec
    exact hR
theorem law_is_number_w {ip i2 : Nat} (hf : P[f]? = some (d_law_is_number ip)) (h1 : P[ip]? = some (d_law_places i2)) (h2 : P[i2]? = some d_law_gcd) (hk : 2 < k) {n : Nat} {d : PyData} (hn : n < w) (hn2 : n ≤ 1000) (hg : Good d) : wp Xp (callF P w k f [.dat (.int n), .dat d]) st Q ↔ Q (.dat (.bool (isNum n d))) st := runs_iff fun R hR => by
  have := phi_le n
  refine wp_call' hf rfl (by omega) ?_; simp only [d_law_is_number, List.map_cons, List.map_nil, List.length_cons, List.length_nil]; rw [wp_blk]
  rcases tuple_or d with ⟨xs, rfl⟩ | ⟨e, e'⟩
  · obtain ⟨g1, g2⟩ := hg xs rfl
    sizeOf_list_dec
    simp (disch := first | assumption | omega | (simp only [List.length_replicate, List.length_map, List.length_range, List.length_append, List.length_cons, List.length_nil, List.length_set, List.length_take, List.length_drop, List.length_dropLast]; omega)) only [WB, tgsLen, exists_eq_left', exists_eq_left, exists_eq', Option.some.injEq, Option.map_some, Option.bind_some, List.getElem?_cons_zero, List.getElem?_cons_succ, List.set_cons_zero, List.set_cons_succ, List.any_cons, List.any_nil, List.map_cons, List.map_nil, List.cons_append, List.nil_append, List.length_cons, List.length_nil, PyData.int.injEq, PyData.bool.injEq, PyData.str.injEq, PyData.list.injEq, PyData.tuple.injEq, D.dat.injEq, Cell.lst.injEq, List.cons.injEq, Bool.not_true, Bool.not_false, Bool.or_false, Bool.or_true, Bool.false_or, Bool.true_or, Bool.and_true, Bool.true_and, Bool.and_false, Bool.false_and, decide_true, decide_false, decide_eq_true_eq, decide_eq_false_iff_not, true_and, and_true, false_and, and_false, Bool.false_eq_true, Bool.true_eq_false, reduceCtorEq, if_true, if_false, ite_true, ite_false, true_implies, false_implies, implies_true, forall_const, forall_eq', forall_eq, id, Bool.not_eq_true', Bool.not_eq_false', wipeE, Nat.zero_le, List.length_set, Nat.reduceAdd, Nat.reduceSub, List.replicate_succ, List.replicate_zero, Int.reduceToNat, Int.toNat_one, Int.toNat_zero, List.length_map, List.length_range, Int.toNat_natCast, TrnK, and_assoc, cut_hi, cut_lo, cut_last, List.drop_succ_cons, List.drop_zero, law_places_w]
    sizeOf_list_dec
    · rename_i h
      simpa [isNum, show ¬ xs.length = phi n by omega] using hR
    · rename_i h
      refine lc_flt0 (p := fun d => !isWhole d) (g := fun d => d) (by first | omega | (simp only [List.length_range, List.length_map, List.length_replicate, List.length_append, List.length_cons, List.length_nil]; omega)) (fun x hx R h1 h2 => ?_) ?_
      · array_get_dec
        cases x <;> simp (disch := assumption) only [isWhole, isi_T, isi_L, isi_D, isi_S, isi_I, isi_B, isi_N] at h1 h2 ⊢ <;> simp at h1 h2 ⊢ <;> first | exact h1 | exact h2
      · rw [List.map_id', o_eqNil (shalAll_mem.mpr fun x hx => shalAll_mem.mp g2 x (List.mem_filter.mp hx).1)]
        array_get_dec
        have e : (xs.filter fun d => !isWhole d).isEmpty = xs.all isWhole := by
          rw [Bool.eq_iff_iff, List.isEmpty_iff, List.filter_eq_nil_iff, List.all_eq_true]
          simp
        rw [e]
        simpa [isNum, show xs.length = phi n by omega] using hR
  · have e2 : isNum n d = false := by cases d <;> first | rfl | exact (e' _ rfl).elim
    rw [e2] at hR
    simp (disch := first | assumption | omega | (simp only [List.length_replicate, List.length_map, List.length_range, List.length_append, List.length_cons, List.length_nil, List.length_set, List.length_take, List.length_drop, List.length_dropLast]; omega)) only [WB, tgsLen, exists_eq_left', exists_eq_left, exists_eq', Option.some.injEq, Option.map_some, Option.bind_some, List.getElem?_cons_zero, List.getElem?_cons_succ, List.set_cons_zero, List.set_cons_succ, List.any_cons, List.any_nil, List.map_cons, List.map_nil, List.cons_append, List.nil_append, List.length_cons, List.length_nil, PyData.int.injEq, PyData.bool.injEq, PyData.str.injEq, PyData.list.injEq, PyData.tuple.injEq, D.dat.injEq, Cell.lst.injEq, List.cons.injEq, Bool.not_true, Bool.not_false, Bool.or_false, Bool.or_true, Bool.false_or, Bool.true_or, Bool.and_true, Bool.true_and, Bool.and_false, Bool.false_and, decide_true, decide_false, decide_eq_true_eq, decide_eq_false_iff_not, true_and, and_true, false_and, and_false, Bool.false_eq_true, Bool.true_eq_false, reduceCtorEq, if_true, if_false, ite_true, ite_false, true_implies, false_implies, implies_true, forall_const, forall_eq', forall_eq, id, Bool.not_eq_true', Bool.not_eq_false', wipeE, Nat.zero_le, List.length_set, Nat.reduceAdd, Nat.reduceSub, List.replicate_succ, List.replicate_zero, Int.reduceToNat, Int.toNat_one, Int.toNat_zero, List.length_map, List.length_range, Int.toNat_natCast, TrnK, and_assoc, cut_hi, cut_lo, cut_last, List.drop_succ_cons, List.drop_zero, e]
    sizeOf_list_dec
    exact hR
end
end MP
end K1

section K2
set_option Elab.async false
set_option linter.all false
set_option maxRecDepth 100000
set_option autoImplicit false
set_option maxHeartbeats 2000000

/-! K2: the feed by its cell; repr. -/
namespace MP
open PySem
local macro_rules
  | `(tactic| array_get_dec) => `(tactic| simp (disch := first | assumption | omega | (simp only [List.length_replicate, List.length_map, List.length_range, List.length_append, List.length_cons, List.length_nil, List.length_set, List.length_take, List.length_drop, List.length_dropLast]; omega)) only [WB, tgsLen, exists_eq_left', exists_eq_left, exists_eq', Option.some.injEq, Option.map_some, Option.bind_some, List.getElem?_cons_zero, List.getElem?_cons_succ, List.set_cons_zero, List.set_cons_succ, List.any_cons, List.any_nil, List.map_cons, List.map_nil, List.cons_append, List.nil_append, List.length_cons, List.length_nil, PyData.int.injEq, PyData.bool.injEq, PyData.str.injEq, PyData.list.injEq, PyData.tuple.injEq, D.dat.injEq, Cell.lst.injEq, List.cons.injEq, Bool.not_true, Bool.not_false, Bool.or_false, Bool.or_true, Bool.false_or, Bool.true_or, Bool.and_true, Bool.true_and, Bool.and_false, Bool.false_and, decide_true, decide_false, decide_eq_true_eq, decide_eq_false_iff_not, true_and, and_true, false_and, and_false, Bool.false_eq_true, Bool.true_eq_false, reduceCtorEq, if_true, if_false, ite_true, ite_false, true_implies, false_implies, implies_true, forall_const, forall_eq', forall_eq, id, Bool.not_eq_true', Bool.not_eq_false', wipeE, Nat.zero_le, List.length_set, Nat.reduceAdd, Nat.reduceSub, List.replicate_succ, List.replicate_zero, Int.reduceToNat, Int.toNat_one, Int.toNat_zero, List.length_map, List.length_range, Int.toNat_natCast, TrnK, and_assoc, cut_hi, cut_lo, cut_last, List.drop_succ_cons, List.drop_zero])
local macro_rules
  | `(tactic| sizeOf_list_dec) => `(tactic| ((try array_get_dec); repeat' (first
    | (rw [rst_cons]; array_get_dec)
    | (rw [wp_blk]; array_get_dec)
    | (refine And.intro (fun _ => ?_) (fun _ => ?_) <;> try array_get_dec))))

/-- a feed's cell, at most n draws on -/
def FdC (n : Nat) (c : Cell) : Prop := ∃ (cs : List Int) (a b d : Int), c = feedC cs a b d ∧ cs.length ≤ 63 ∧ 0 ≤ a ∧ a ≤ n ∧ 0 ≤ b ∧ 0 ≤ d
theorem FdC.mono {n m : Nat} {c : Cell} (h : FdC n c) (l : n ≤ m) : FdC m c := by
  obtain ⟨cs, a, b, d, e, h1, h2, h3, h4, h5⟩ := h
  exact ⟨cs, a, b, d, e, h1, h2, by omega, h4, h5⟩
theorem gset {st : Store} {i : Nat} {c0 c : Cell} (h : st[i]? = some c0) : (st.set i c)[i]? = some c := List.getElem?_set_self (List.getElem?_eq_some_iff.mp h).1
section
variable {Xp : Exc → Store → Prop} {P : List Def} {w k f : Nat} {st : Store} {Q : D → Store → Prop}
theorem draw_c (hf : P[f]? = some d_law_draw) (hw : 65 ≤ w) (hk : 0 < k) {i n : Nat} {c0 : Cell} (hi : st[i]? = some c0) (hF : FdC n c0) {m : Int} (h0 : 0 < m) (hm : m < 2 ^ 100) (hn : n ≤ 2 ^ 60)
    (h : ∀ v c, 0 ≤ v → v < m → FdC (n + 1) c → Q (.dat (.int v)) (st.set i c)) : wp Xp (callF P w k f [.ref i, .dat (.int m)]) st Q := by
  obtain ⟨j, rfl⟩ : ∃ j, k = j + 1 := ⟨k - 1, by omega⟩
  have hF' : Fd n st i := by
    obtain ⟨cs, a, b, d, rfl, z⟩ := hF
    exact ⟨cs, a, b, d, hi, z⟩
  refine draw_ok hf hw h0 hm hn hF' fun v c v0 v1 g => h v c v0 v1 ?_
  obtain ⟨cs, a, b, d, e, z⟩ := g
  rw [gset hi] at e
  cases e
  exact ⟨cs, a, b, d, rfl, z⟩
theorem feed_c (hf : P[f]? = some d_law_feed) (hk : 0 < k) {ns : List Int} (hn : ns.length ≤ 63) (h : ∀ c, FdC 0 c → ∀ xs, c = .lst xs → Q (.newL xs) st) : wp Xp (callF P w k f [.dat (.list (ns.map .int))]) st Q := by
  obtain ⟨j, rfl⟩ : ∃ j, k = j + 1 := ⟨k - 1, by omega⟩
  exact feed_ok hf hn (h _ ⟨ns, 0, 0, 0, rfl, hn, by omega, by omega, by omega, by omega⟩ _ rfl)
end
/-- whole numbers that repr may show -/
def sml (x : Int) : Prop := x.natAbs < 2 ^ 200
theorem showAll_s : ∀ (ns : List Int), (∀ x ∈ ns, sml x) → PyData.showableAll (ns.map .int) = true
  | [], _ => rfl
  | x :: ns, h => by
    have := log2_small (a := x) (n := 199) (h x (List.mem_cons_self ..))
    rw [List.map_cons, PyData.showableAll, showAll_s ns fun y hy => h y (List.mem_cons_of_mem _ hy), PyData.showable, decide_eq_true (by omega)]
    rfl
theorem widAll_s : ∀ (ns : List Int), (∀ x ∈ ns, sml x) → widAll (ns.map .int) ≤ 300 * ns.length
  | [], _ => Nat.le_refl _
  | x :: ns, h => by
    have := widAll_s ns fun y hy => h y (List.mem_cons_of_mem _ hy)
    have := log2_small (a := x) (n := 199) (h x (List.mem_cons_self ..))
    rw [List.map_cons, widAll, wid, List.length_cons]
    omega
theorem o_reprT {ns : List Int} (hl : ns.length ≤ 1000) (hb : ∀ x ∈ ns, sml x) : biV .repr [.tuple (ns.map .int)] = some (.dat (.str (PyData.shown (.tuple (ns.map .int))))) := by
  have h1 : shal 60 (.tuple (ns.map .int)) = true := shalAll_ints _ _
  have h2 : PyData.showable (.tuple (ns.map .int)) = true := showAll_s _ hb
  have h3 := widAll_s ns hb
  show (if shal 60 (.tuple (ns.map .int)) && PyData.showable (.tuple (ns.map .int)) && decide (wid (.tuple (ns.map .int)) ≤ LIM) then some _ else none) = _
  rw [h1, h2, wid, decide_eq_true (by rw [LIM]; omega)]
  rfl
theorem o_reprI {x : Int} (hb : sml x) : biV .repr [.int x] = some (.dat (.str (PyData.shown (.int x)))) := by
  have h0 := log2_small (a := x) (n := 199) hb
  have h2 : PyData.showable (.int x) = true := by rw [PyData.showable, decide_eq_true (by omega)]
  show (if shal 60 (.int x) && PyData.showable (.int x) && decide (wid (.int x) ≤ LIM) then some _ else none) = _
  rw [h2, wid, decide_eq_true (by rw [LIM]; omega)]
  rfl
theorem o_reprN : biV .repr [.none] = some (.dat (.str (PyData.shown .none))) := by
  show (if shal 60 .none && PyData.showable .none && decide (wid .none ≤ LIM) then some _ else none) = _
  rw [wid]
  rfl
end MP
end K2

section K01
set_option Elab.async false
set_option linter.all false
set_option maxRecDepth 100000
set_option autoImplicit false
set_option maxHeartbeats 2000000

/-! K01: the law of numbers by kind. -/
namespace K01
open PySem MP
local macro_rules
  | `(tactic| array_get_dec) => `(tactic| simp (disch := first | assumption | omega | (simp only [List.length_replicate, List.length_map, List.length_range, List.length_append, List.length_cons, List.length_nil, List.length_set, List.length_take, List.length_drop, List.length_dropLast]; omega)) only [WB, tgsLen, exists_eq_left', exists_eq_left, exists_eq', Option.some.injEq, Option.map_some, Option.bind_some, List.getElem?_cons_zero, List.getElem?_cons_succ, List.set_cons_zero, List.set_cons_succ, List.any_cons, List.any_nil, List.map_cons, List.map_nil, List.cons_append, List.nil_append, List.length_cons, List.length_nil, PyData.int.injEq, PyData.bool.injEq, PyData.str.injEq, PyData.list.injEq, PyData.tuple.injEq, D.dat.injEq, Cell.lst.injEq, List.cons.injEq, Bool.not_true, Bool.not_false, Bool.or_false, Bool.or_true, Bool.false_or, Bool.true_or, Bool.and_true, Bool.true_and, Bool.and_false, Bool.false_and, decide_true, decide_false, decide_eq_true_eq, decide_eq_false_iff_not, true_and, and_true, false_and, and_false, Bool.false_eq_true, Bool.true_eq_false, reduceCtorEq, if_true, if_false, ite_true, ite_false, true_implies, false_implies, implies_true, forall_const, forall_eq', forall_eq, id, Bool.not_eq_true', Bool.not_eq_false', wipeE, Nat.zero_le, List.length_set, Nat.reduceAdd, Nat.reduceSub, List.replicate_succ, List.replicate_zero, Int.reduceToNat, Int.toNat_one, Int.toNat_zero, List.length_map, List.length_range, Int.toNat_natCast, TrnK, and_assoc, cut_hi, cut_lo, cut_last, List.drop_succ_cons, List.drop_zero])
local macro_rules
  | `(tactic| sizeOf_list_dec) => `(tactic| ((try array_get_dec); repeat' (first
    | (rw [rst_cons]; array_get_dec)
    | (rw [wp_blk]; array_get_dec)
    | (refine And.intro (fun _ => ?_) (fun _ => ?_) <;> try array_get_dec))))

def d_law_n (i_law_draw : Nat) : Def := ⟨"_law_n", ["_law_feed_here"], ["_law_feed_here", "_law_great"],
  .cons (.asg (.name 1) (.idx (.lst (.cons (.con (.int 24)) (.cons (.con (.int 30)) (.cons (.con (.int 36)) (.cons (.con (.int 48)) (.cons (.con (.int 60)) .nil)))))) (.call i_law_draw (.cons (.var 0) (.cons (.con (.int 5)) .nil)))))
    (.cons (.ret (.idx (.lst (.cons (.bin .add (.con (.int 1)) (.call i_law_draw (.cons (.var 0) (.cons (.con (.int 12)) .nil)))) (.cons (.bin .add (.con (.int 1)) (.call i_law_draw (.cons (.var 0) (.cons (.con (.int 60)) .nil)))) (.cons (.var 1) .nil)))) (.call i_law_draw (.cons (.var 0) (.cons (.con (.int 3)) .nil))))) .nil)⟩

def d_law_whole (i_law_draw : Nat) : Def := ⟨"_law_whole", ["_law_feed_here"], ["_law_feed_here", "_law_far"],
  .cons (.asg (.name 1) (.idx (.lst (.cons (.con (.int 3)) (.cons (.con (.int 30)) (.cons (.bin .pow (.con (.int 10)) (.con (.int 17))) .nil)))) (.call i_law_draw (.cons (.var 0) (.cons (.con (.int 3)) .nil)))))
    (.cons (.ret (.bin .sub (.call i_law_draw (.cons (.var 0) (.cons (.bin .add (.bin .mul (.con (.int 2)) (.var 1)) (.con (.int 1))) .nil))) (.var 1))) .nil)⟩

def d_law_number (i_law_draw : Nat) (i_law_whole : Nat) (i_law_places : Nat) : Def := ⟨"_law_number", ["_law_feed_here", "_law_n_here"], ["_law_feed_here", "_law_n_here", "_law_few", "_law_found", "_law_k", "_law_one"],
  .cons (.asg (.name 2) (.call i_law_draw (.cons (.var 0) (.cons (.con (.int 2)) .nil))))
    (.cons (.asg (.name 3) (.comp (.call i_law_whole (.cons (.var 0) .nil)) (.name 4) (.rng1 (.call i_law_places (.cons (.var 1) .nil))) .none [("_law_k", 4)]))
    (.cons (.ret (.bi .tuple (.cons (.comp (.bin .mul (.var 5) (.idx (.lst (.cons (.con (.int 1)) (.cons (.bi .int (.cons (.cmp .eq (.call i_law_draw (.cons (.var 0) (.cons (.con (.int 3)) .nil))) (.con (.int 0))) .nil)) .nil))) (.var 2))) (.name 5) (.val (.var 3)) .none [("_law_one", 5)]) .nil))) .nil))⟩

def d_law_truth : Def := ⟨"_law_truth", ["_law_found", "_law_due"], ["_law_found", "_law_due"],
  .cons (.ret (.and (.isi (.var 0) [.bool] false) (.cmp .eq (.var 0) (.var 1)))) .nil⟩

def d_law_bent (i_law_draw : Nat) : Def := ⟨"_law_bent", ["_law_feed_here", "_law_one"], ["_law_feed_here", "_law_one", "_law_at", "_law_other", "_law_some"],
  .cons (.asg (.name 2) (.call i_law_draw (.cons (.var 0) (.cons (.bi .len (.cons (.var 1) .nil)) .nil))))
    (.cons (.asg (.name 3) (.idx (.lst (.cons (.con (.bool true)) (.cons (.con (.none)) (.cons (.con (.str "1")) (.cons (.tup (.cons (.con (.int 1)) .nil)) (.cons (.bin .pow (.con (.int 10)) (.con (.int 39))) .nil)))))) (.call i_law_draw (.cons (.var 0) (.cons (.con (.int 5)) .nil)))))
    (.cons (.asg (.name 4) (.lst (.cons (.bi .list (.cons (.var 1) .nil)) (.cons (.bin .add (.var 1) (.tup (.cons (.con (.int 0)) .nil))) (.cons (.slc (.var 1) .none (.some (.neg (.con (.int 1))))) (.cons (.bin .add (.bin .add (.slc (.var 1) .none (.some (.var 2))) (.tup (.cons (.var 3) .nil))) (.slc (.var 1) (.some (.bin .add (.var 2) (.con (.int 1)))) .none)) (.cons (.tup (.cons (.var 1) .nil)) (.cons (.bin .add (.var 1) (.var 1)) .nil))))))))
    (.cons (.ret (.idx (.var 4) (.call i_law_draw (.cons (.var 0) (.cons (.con (.int 6)) .nil))))) .nil)))⟩

def d_law_right (i_whole_of : Nat) (i_whole : Nat) (i_law_places : Nat) (i_law_whole : Nat) (i_law_bent : Nat) (i_law_truth : Nat) (i_law_is_number : Nat) (i_is_number : Nat) (i_law_number : Nat) : Def := ⟨"_law_right", ["_law_feed_here", "_law_n_here"], ["_law_feed_here", "_law_n_here", "_law_one", "_law_thing", "_law_k", "_law_due", "_law_others", "_law_j"],
  .cons (.asg (.name 2) (.call i_law_number (.cons (.var 0) (.cons (.var 1) .nil))))
    (.cons (.for_ (.name 3) (.val (.lst (.cons (.var 2) (.cons (.call i_law_bent (.cons (.var 0) (.cons (.var 2) .nil))) (.cons (.con (.none)) (.cons (.con (.int 0)) (.cons (.con (.bool true)) (.cons (.con (.str "")) (.cons (.tup (.nil)) (.cons (.lst (.nil)) (.cons (.emp false) .nil))))))))))) (.cons (.ife (.not (.call i_law_truth (.cons (.call i_is_number (.cons (.var 1) (.cons (.var 3) .nil))) (.cons (.call i_law_is_number (.cons (.var 1) (.cons (.var 3) .nil))) .nil)))) (.cons (.ret (.con (.bool false))) .nil) (.nil)) .nil))
    (.cons (.asg (.name 4) (.call i_law_whole (.cons (.var 0) .nil)))
    (.cons (.asg (.name 5) (.bi .tuple (.cons (.comp (.bin .mul (.var 4) (.bi .int (.cons (.cmp .eq (.var 7) (.con (.int 0))) .nil))) (.name 7) (.rng1 (.call i_law_places (.cons (.var 1) .nil))) .none [("_law_j", 7)]) .nil)))
    (.cons (.ife (.or (.cmp .ne (.bi .repr (.cons (.call i_whole (.cons (.var 1) (.cons (.var 4) .nil))) .nil)) (.bi .repr (.cons (.var 5) .nil))) (.cmp .ne (.bi .repr (.cons (.call i_whole_of (.cons (.var 5) .nil)) .nil)) (.bi .repr (.cons (.var 4) .nil)))) (.cons (.ret (.con (.bool false))) .nil) (.nil))
    (.cons (.asg (.name 6) (.comp (.var 7) (.name 7) (.rng2 (.con (.int 1)) (.bi .len (.cons (.var 2) .nil))) (.some (.cmp .ne (.idx (.var 2) (.var 7)) (.con (.int 0)))) [("_law_j", 7)]))
    (.cons (.ret (.cmp .eq (.bi .repr (.cons (.call i_whole_of (.cons (.var 2) .nil)) .nil)) (.ife (.cmp .eq (.var 6) (.lst (.nil))) (.bi .repr (.cons (.idx (.var 2) (.con (.int 0))) .nil)) (.con (.str "None"))))) .nil))))))⟩

def d_law (i_law_right : Nat) (i_law_n : Nat) (i_places : Nat) (i_law_places : Nat) (i_law_feed : Nat) : Def := ⟨"law", ["_law_script"], ["_law_script", "_law_feed_here", "_law_k", "_law_n_here"],
  .cons (.asg (.name 1) (.cell (.call i_law_feed (.cons (.var 0) .nil))))
    (.cons (.ife (.cmp .ne (.comp (.var 3) (.name 3) (.rng2 (.con (.int 1)) (.con (.int 61))) (.some (.cmp .ne (.bi .repr (.cons (.call i_places (.cons (.var 3) .nil)) .nil)) (.bi .repr (.cons (.call i_law_places (.cons (.var 3) .nil)) .nil)))) [("_law_n_here", 3)]) (.lst (.nil))) (.cons (.ret (.con (.bool false))) .nil) (.nil))
    (.cons (.for_ (.name 2) (.rng1 (.con (.int 8))) (.cons (.ife (.not (.call i_law_right (.cons (.var 1) (.cons (.call i_law_n (.cons (.var 1) .nil)) .nil)))) (.cons (.ret (.con (.bool false))) .nil) (.nil)) .nil))
    (.cons (.ret (.con (.bool true))) .nil)))⟩

section
variable {Xp : Exc → Store → Prop} {P : List Def} {w k f : Nat} {st : Store} {Q : D → Store → Prop}
theorem law_n_ok {dr : Nat} (hf : P[f]? = some (d_law_n dr)) (hd : P[dr]? = some d_law_draw) (hw : 65 ≤ w) (hk : 1 < k) {i n : Nat} {c0 : Cell} (hi : st[i]? = some c0) (hF : FdC n c0) (hn : n + 10 ≤ 2 ^ 60)
    (h : ∀ (m : Nat) c, 1 ≤ m → m ≤ 60 → FdC (n + 4) c → Q (.dat (.int m)) (st.set i c)) : wp Xp (callF P w k f [.ref i]) st Q := by
  refine wp_call' hf rfl (by omega) ?_; simp only [d_law_n, List.map_cons, List.map_nil, List.length_cons, List.length_nil]; rw [wp_blk]
  sizeOf_list_dec
  refine draw_c hd hw (by omega) hi hF (by omega) (by omega) (by omega) fun v c v0 v1 hF => ?_
  array_get_dec
  refine ex_pick v0 v1 fun g hg => ?_
  sizeOf_list_dec
  refine draw_c hd hw (by omega) (gset hi) hF (by omega) (by omega) (by omega) fun v1 c z0 z1 hF => ?_
  array_get_dec
  refine draw_c hd hw (by omega) (gset hi) hF (by omega) (by omega) (by omega) fun v2 c y0 y1 hF => ?_
  array_get_dec
  refine draw_c hd hw (by omega) (gset hi) hF (by omega) (by omega) (by omega) fun v3 c x0 x1 hF => ?_
  array_get_dec
  refine ex_pick x0 x1 fun d hd => ?_
  have key : ∃ m : Nat, d = .int m ∧ 1 ≤ m ∧ m ≤ 60 := by
    simp only [List.mem_cons, List.not_mem_nil, or_false] at hd hg
    rcases hd with rfl | rfl | rfl
    · exact ⟨(1 + v1).toNat, by rw [Int.toNat_of_nonneg (by omega)], by omega, by omega⟩
    · exact ⟨(1 + v2).toNat, by rw [Int.toNat_of_nonneg (by omega)], by omega, by omega⟩
    · rcases hg with rfl | rfl | rfl | rfl | rfl
      · exact ⟨24, rfl, by omega, by omega⟩
      · exact ⟨30, rfl, by omega, by omega⟩
      · exact ⟨36, rfl, by omega, by omega⟩
      · exact ⟨48, rfl, by omega, by omega⟩
      · exact ⟨60, rfl, by omega, by omega⟩
  obtain ⟨m, rfl, m1, m2⟩ := key
  exact h m c m1 m2 hF
theorem law_whole_ok {dr : Nat} (hf : P[f]? = some (d_law_whole dr)) (hd : P[dr]? = some d_law_draw) (hw : 65 ≤ w) (hk : 1 < k) {i n : Nat} {c0 : Cell} (hi : st[i]? = some c0) (hF : FdC n c0) (hn : n + 10 ≤ 2 ^ 60)
    (h : ∀ (m : Int) c, -(10 ^ 17) ≤ m → m ≤ 10 ^ 17 → FdC (n + 2) c → Q (.dat (.int m)) (st.set i c)) : wp Xp (callF P w k f [.ref i]) st Q := by
  refine wp_call' hf rfl (by omega) ?_; simp only [d_law_whole, List.map_cons, List.map_nil, List.length_cons, List.length_nil]; rw [wp_blk]
  sizeOf_list_dec
  refine draw_c hd hw (by omega) hi hF (by omega) (by omega) (by omega) fun v c v0 v1 hF => ?_
  array_get_dec
  refine ex_pick v0 v1 fun g hg => ?_
  have key : ∃ m : Int, g = .int m ∧ 3 ≤ m ∧ m ≤ 10 ^ 17 := by
    simp only [List.mem_cons, List.not_mem_nil, or_false] at hg
    rcases hg with rfl | rfl | rfl
    · exact ⟨_, rfl, by omega, by omega⟩
    · exact ⟨_, rfl, by omega, by omega⟩
    · exact ⟨_, rfl, by omega, by omega⟩
  obtain ⟨m, rfl, m1, m2⟩ := key
  sizeOf_list_dec
  refine draw_c hd hw (by omega) (gset hi) hF (by omega) (by omega) (by omega) fun v2 c y0 y1 hF => ?_
  array_get_dec
  exact h _ _ (by omega) (by omega) hF
theorem law_number_ok {dr wh pl gc : Nat} (hf : P[f]? = some (d_law_number dr wh pl)) (hd : P[dr]? = some d_law_draw) (hwh : P[wh]? = some (d_law_whole dr)) (hp : P[pl]? = some (d_law_places gc)) (hg : P[gc]? = some d_law_gcd) (hw : 65 ≤ w) (hk : 2 < k) {i n : Nat} {c0 : Cell} (hi : st[i]? = some c0) (hF : FdC n c0) (hn : n + 1000 ≤ 2 ^ 60) {m : Nat} (h1 : 1 ≤ m) (h2 : m ≤ 60)
    (h : ∀ (ns : List Int) c, ns.length = phi m → (∀ x ∈ ns, sml x) → FdC (n + 1000) c → Q (.dat (.tuple (ns.map .int))) (st.set i c)) : wp Xp (callF P w k f [.ref i, .dat (.int m)]) st Q := by
  refine wp_call' hf rfl (by omega) ?_; simp only [d_law_number, List.map_cons, List.map_nil, List.length_cons, List.length_nil]; rw [wp_blk]
  sizeOf_list_dec
  refine draw_c hd hw (by omega) hi hF (by omega) (by omega) (by omega) fun v c v0 v1 hF => ?_
  sizeOf_list_dec
  simp (disch := first | assumption | omega | (simp only [List.length_replicate, List.length_map, List.length_range, List.length_append, List.length_cons, List.length_nil, List.length_set, List.length_take, List.length_drop, List.length_dropLast]; omega)) only [WB, tgsLen, exists_eq_left', exists_eq_left, exists_eq', Option.some.injEq, Option.map_some, Option.bind_some, List.getElem?_cons_zero, List.getElem?_cons_succ, List.set_cons_zero, List.set_cons_succ, List.any_cons, List.any_nil, List.map_cons, List.map_nil, List.cons_append, List.nil_append, List.length_cons, List.length_nil, PyData.int.injEq, PyData.bool.injEq, PyData.str.injEq, PyData.list.injEq, PyData.tuple.injEq, D.dat.injEq, Cell.lst.injEq, List.cons.injEq, Bool.not_true, Bool.not_false, Bool.or_false, Bool.or_true, Bool.false_or, Bool.true_or, Bool.and_true, Bool.true_and, Bool.and_false, Bool.false_and, decide_true, decide_false, decide_eq_true_eq, decide_eq_false_iff_not, true_and, and_true, false_and, and_false, Bool.false_eq_true, Bool.true_eq_false, reduceCtorEq, if_true, if_false, ite_true, ite_false, true_implies, false_implies, implies_true, forall_const, forall_eq', forall_eq, id, Bool.not_eq_true', Bool.not_eq_false', wipeE, Nat.zero_le, List.length_set, Nat.reduceAdd, Nat.reduceSub, List.replicate_succ, List.replicate_zero, Int.reduceToNat, Int.toNat_one, Int.toNat_zero, List.length_map, List.length_range, Int.toNat_natCast, TrnK, and_assoc, cut_hi, cut_lo, cut_last, List.drop_succ_cons, List.drop_zero, law_places_w]
  have hphi := phi_le m
  refine ⟨by simp [small]; omega, ?_⟩
  refine lc_by (fun j acc s => ∃ (ns : List Int) (c : Cell), acc = ns.map .int ∧ s = st.set i c ∧ ns.length = j ∧ (∀ x ∈ ns, -(10 ^ 17) ≤ x ∧ x ≤ 10 ^ 17) ∧ FdC (n + 1 + 2 * j) c) ⟨[], c, rfl, rfl, rfl, by simp, hF⟩ (by first | omega | (simp only [List.length_range, List.length_map, List.length_replicate, List.length_append, List.length_cons, List.length_nil]; omega)) ?_ ?_ ?_
  · rintro j acc s ⟨ns, c, rfl, rfl, rfl, _⟩
    simp
  · rintro j x acc s hx ⟨ns, c, rfl, rfl, rfl, hb, hF⟩
    have hj : ns.length < phi m := by
      obtain ⟨l, _⟩ := List.getElem?_eq_some_iff.mp hx
      simpa using l
    array_get_dec
    refine law_whole_ok hwh hd hw (by omega) (gset hi) hF (by omega) fun y c y0 y1 hF => ?_
    array_get_dec
    exact ⟨ns ++ [y], c, by simp, rfl, by simp, fun x hx => by
      rcases List.mem_append.mp hx with hx | hx
      · exact hb x hx
      · rw [List.mem_singleton] at hx
        subst hx
        exact ⟨y0, y1⟩, hF.mono (by omega)⟩
  · rintro acc s ⟨ns, c, rfl, rfl, hl, hb, hF⟩
    rw [List.length_range] at hl hF
    sizeOf_list_dec
    refine lc_by (l := ns) (fun j acc s => ∃ (ms : List Int) (c : Cell), acc = ms.map .int ∧ s = st.set i c ∧ ms.length = j ∧ (∀ x ∈ ms, sml x) ∧ FdC (n + 1 + 2 * phi m + j) c) ⟨[], c, rfl, rfl, rfl, by simp, hF⟩ (by first | omega | (simp only [List.length_range, List.length_map, List.length_replicate, List.length_append, List.length_cons, List.length_nil]; omega)) ?_ ?_ ?_
    · rintro j acc s ⟨ns, c, rfl, rfl, rfl, _⟩
      simp
    · rintro j x acc s hx ⟨ms, c, rfl, rfl, rfl, hb2, hF⟩
      have hx2 := hb x (List.mem_of_getElem? hx)
      have hj : ms.length < phi m := by
        obtain ⟨l, _⟩ := List.getElem?_eq_some_iff.mp hx
        omega
      array_get_dec
      refine draw_c hd hw (by omega) (gset hi) hF (by omega) (by omega) (by omega) fun v2 c y0 y1 hF => ?_
      array_get_dec
      refine ex_pick v0 v1 fun g hg => ?_
      have key : ∃ z : Int, g = .int z ∧ 0 ≤ z ∧ z ≤ 1 := by
        simp only [List.mem_cons, List.not_mem_nil, or_false] at hg
        rcases hg with rfl | rfl
        · exact ⟨_, rfl, by omega, by omega⟩
        · exact ⟨_, rfl, by split <;> omega, by split <;> omega⟩
      obtain ⟨z, rfl, z1, z2⟩ := key
      array_get_dec
      refine ⟨ms ++ [x * z], c, by simp, rfl, by simp, fun y hy => ?_, hF.mono (by omega)⟩
      rcases List.mem_append.mp hy with hy | hy
      · exact hb2 y hy
      · rw [List.mem_singleton] at hy
        subst hy
        have : z = 0 ∨ z = 1 := by omega
        unfold sml
        rcases this with rfl | rfl <;> omega
    · rintro acc s ⟨ms, c, rfl, rfl, hl2, hb2, hF⟩
      array_get_dec
      exact h ms c (by omega) hb2 (hF.mono (by omega))
theorem law_truth_w (hf : P[f]? = some d_law_truth) (hk : 0 < k) {a b : Bool} : wp Xp (callF P w k f [.dat (.bool a), .dat (.bool b)]) st Q ↔ Q (.dat (.bool (a == b))) st := runs_iff fun R hR => by
  refine wp_call' hf rfl (by omega) ?_; simp only [d_law_truth, List.map_cons, List.map_nil, List.length_cons, List.length_nil]; rw [wp_blk]
  sizeOf_list_dec
  exact hR
theorem law_bent_ok {dr : Nat} (hf : P[f]? = some (d_law_bent dr)) (hd : P[dr]? = some d_law_draw) (hw : 65 ≤ w) (hk : 1 < k) {i n : Nat} {c0 : Cell} (hi : st[i]? = some c0) (hF : FdC n c0) (hn : n + 10 ≤ 2 ^ 60) {ns : List Int} (h1 : 1 ≤ ns.length) (h2 : ns.length ≤ 60)
    (h : ∀ d c, Good d → FdC (n + 3) c → Q (.dat d) (st.set i c)) : wp Xp (callF P w k f [.ref i, .dat (.tuple (ns.map .int))]) st Q := by
  refine wp_call' hf rfl (by omega) ?_; simp only [d_law_bent, List.map_cons, List.map_nil, List.length_cons, List.length_nil]; rw [wp_blk]
  sizeOf_list_dec
  refine draw_c hd hw (by omega) hi hF (by omega) (by omega) (by omega) fun v c v0 v1 hF => ?_
  sizeOf_list_dec
  refine draw_c hd hw (by omega) (gset hi) hF (by omega) (by omega) (by omega) fun v' c v0' v1' hF => ?_
  array_get_dec
  refine ex_pick v0' v1' fun o ho => ?_
  have ho2 : shal 1 o = true := by
    simp only [List.mem_cons, List.not_mem_nil, or_false] at ho
    rcases ho with rfl | rfl | rfl | rfl | rfl <;> rfl
  sizeOf_list_dec
  refine draw_c hd hw (by omega) (gset hi) hF (by omega) (by omega) (by omega) fun v2 c y0 y1 hF => ?_
  array_get_dec
  refine ex_pick y0 y1 fun d hd => ?_
  refine h d c ?_ hF
  have si : ∀ x ∈ ns.map PyData.int, shal 59 x = true := shalAll_mem.mp (shalAll_ints 59 ns)
  have so : shal 59 o = true := by
    simp only [List.mem_cons, List.not_mem_nil, or_false] at ho
    rcases ho with rfl | rfl | rfl | rfl | rfl <;> rfl
  simp only [List.mem_cons, List.not_mem_nil, or_false] at hd
  rcases hd with rfl | rfl | rfl | rfl | rfl | rfl <;> intro xs e <;> cases e
  · refine ⟨by rw [List.length_append, List.length_map, List.length_singleton]; omega, shalAll_mem.mpr fun x hx => ?_⟩
    simp only [List.mem_append, List.mem_cons, List.not_mem_nil, or_false] at hx
    rcases hx with hx | rfl
    · exact si x hx
    · rfl
  · exact ⟨by rw [List.length_dropLast, List.length_map]; omega, shalAll_mem.mpr fun x hx => si x ((List.dropLast_sublist _).subset hx)⟩
  · refine ⟨by simp; omega, shalAll_mem.mpr fun x hx => ?_⟩
    simp only [List.mem_append, List.mem_cons, List.not_mem_nil, or_false] at hx
    rcases hx with (hx | rfl) | hx
    · exact si x (List.mem_of_mem_take hx)
    · exact so
    · exact si x (List.mem_of_mem_drop hx)
  · refine ⟨by simp, shalAll_mem.mpr fun x hx => ?_⟩
    simp only [List.mem_cons, List.not_mem_nil, or_false] at hx
    subst hx
    exact shalAll_ints _ _
  · refine ⟨by simp; omega, shalAll_mem.mpr fun x hx => ?_⟩
    rcases List.mem_append.mp hx with hx | hx <;> exact si x hx
theorem first_only (y : Int) (n : Nat) (h : 1 ≤ n) : (List.range n).map (fun j : Nat => PyData.int (y * if (j : Int) = 0 then 1 else 0)) = (y :: List.replicate (n - 1) 0).map .int := by
  refine List.ext_getElem (by simp; omega) fun i h1 h2 => ?_
  cases i with
  | zero => simp
  | succ i =>
    simp
structure Tx (P : List Def) (i1 i2 i3 i4 i5 i6 i7 i8 i9 j1 j2 j3 j4 j5 j6 j7 : Nat) : Prop where
  whole_of : P[i1]? = some d_whole_of
  whole : P[i2]? = some (d_whole j1)
  law_places : P[i3]? = some (d_law_places j2)
  law_whole : P[i4]? = some (d_law_whole j3)
  law_bent : P[i5]? = some (d_law_bent j3)
  law_truth : P[i6]? = some d_law_truth
  law_is_number : P[i7]? = some (d_law_is_number i3)
  is_number : P[i8]? = some (d_is_number j4 j1)
  law_number : P[i9]? = some (d_law_number j3 i4 i3)
  places : P[j1]? = some (d_places j5)
  law_gcd : P[j2]? = some d_law_gcd
  law_draw : P[j3]? = some d_law_draw
  is_whole : P[j4]? = some d_is_whole
  shared : P[j5]? = some d_shared
  law_n : P[j6]? = some (d_law_n j3)
  law_feed : P[j7]? = some d_law_feed
theorem law_right_ok {i1 i2 i3 i4 i5 i6 i7 i8 i9 j1 j2 j3 j4 j5 j6 j7 : Nat} (T : Tx P i1 i2 i3 i4 i5 i6 i7 i8 i9 j1 j2 j3 j4 j5 j6 j7) (hf : P[f]? = some (d_law_right i1 i2 i3 i4 i5 i6 i7 i8 i9)) (hw : 65 ≤ w) (hk : 3 < k) {i n : Nat} {c0 : Cell} (hi : st[i]? = some c0) (hF : FdC n c0) (hn : n + 2000 ≤ 2 ^ 60) {m : Nat} (h1 : 1 ≤ m) (h2 : m ≤ 60)
    (h : ∀ c, FdC (n + 2000) c → Q (.dat (.bool true)) (st.set i c)) : wp Xp (callF P w k f [.ref i, .dat (.int m)]) st Q := by
  have := T.law_places
  have := T.law_gcd
  have := T.places
  have := T.shared
  have := T.whole
  have := T.whole_of
  have := T.is_number
  have := T.law_is_number
  have := T.is_whole
  have := T.law_truth
  have hphi := phi_le m
  have hphi2 := phi_pos h1
  refine wp_call' hf rfl (by omega) ?_; simp only [d_law_right, List.map_cons, List.map_nil, List.length_cons, List.length_nil]; rw [wp_blk]
  sizeOf_list_dec
  refine law_number_ok T.law_number T.law_draw T.law_whole T.law_places T.law_gcd hw (by omega) hi hF (by omega) h1 h2 fun ns c hl hb hF => ?_
  sizeOf_list_dec
  refine law_bent_ok T.law_bent T.law_draw hw (by omega) (gset hi) hF (by omega) (by omega) (by omega) fun e1 c g1 hF => ?_
  array_get_dec
  refine for_in (fun _ ρ s => ∃ x : Option D, ρ = [some (.ref i), some (.dat (.int m)), some (.dat (.tuple (ns.map .int))), x, none, none, none, none] ∧ s = st.set i c) ⟨_, rfl, rfl⟩ ?_ ?_
  · rintro q z ρ1 s1 hz ⟨y6, rfl, rfl⟩
    have hg : Good z := by
      have hz2 := List.mem_of_getElem? hz
      simp only [List.mem_cons, List.not_mem_nil, or_false] at hz2
      rcases hz2 with rfl | rfl | rfl | rfl | rfl | rfl | rfl | rfl | rfl
      · exact good_ints (by omega)
      · exact g1
      all_goals intro xs e; cases e
      all_goals exact ⟨by simp, rfl⟩
    sizeOf_list_dec
    simp (disch := first | assumption | omega | (simp only [List.length_replicate, List.length_map, List.length_range, List.length_append, List.length_cons, List.length_nil, List.length_set, List.length_take, List.length_drop, List.length_dropLast]; omega)) only [WB, tgsLen, exists_eq_left', exists_eq_left, exists_eq', Option.some.injEq, Option.map_some, Option.bind_some, List.getElem?_cons_zero, List.getElem?_cons_succ, List.set_cons_zero, List.set_cons_succ, List.any_cons, List.any_nil, List.map_cons, List.map_nil, List.cons_append, List.nil_append, List.length_cons, List.length_nil, PyData.int.injEq, PyData.bool.injEq, PyData.str.injEq, PyData.list.injEq, PyData.tuple.injEq, D.dat.injEq, Cell.lst.injEq, List.cons.injEq, Bool.not_true, Bool.not_false, Bool.or_false, Bool.or_true, Bool.false_or, Bool.true_or, Bool.and_true, Bool.true_and, Bool.and_false, Bool.false_and, decide_true, decide_false, decide_eq_true_eq, decide_eq_false_iff_not, true_and, and_true, false_and, and_false, Bool.false_eq_true, Bool.true_eq_false, reduceCtorEq, if_true, if_false, ite_true, ite_false, true_implies, false_implies, implies_true, forall_const, forall_eq', forall_eq, id, Bool.not_eq_true', Bool.not_eq_false', wipeE, Nat.zero_le, List.length_set, Nat.reduceAdd, Nat.reduceSub, List.replicate_succ, List.replicate_zero, Int.reduceToNat, Int.toNat_one, Int.toNat_zero, List.length_map, List.length_range, Int.toNat_natCast, TrnK, and_assoc, cut_hi, cut_lo, cut_last, List.drop_succ_cons, List.drop_zero, is_number_w T.is_number T.places T.shared T.is_whole, law_is_number_w T.law_is_number T.law_places T.law_gcd, law_truth_w, beq_self_eq_true]
    exact ⟨_, rfl, rfl⟩
  · rintro ρ1 s1 ⟨y6, rfl, rfl⟩
    sizeOf_list_dec
    refine law_whole_ok T.law_whole T.law_draw hw (by omega) (gset hi) hF (by omega) fun y c y0 y1 hF => ?_
    sizeOf_list_dec
    simp (disch := first | assumption | omega | (simp only [List.length_replicate, List.length_map, List.length_range, List.length_append, List.length_cons, List.length_nil, List.length_set, List.length_take, List.length_drop, List.length_dropLast]; omega)) only [WB, tgsLen, exists_eq_left', exists_eq_left, exists_eq', Option.some.injEq, Option.map_some, Option.bind_some, List.getElem?_cons_zero, List.getElem?_cons_succ, List.set_cons_zero, List.set_cons_succ, List.any_cons, List.any_nil, List.map_cons, List.map_nil, List.cons_append, List.nil_append, List.length_cons, List.length_nil, PyData.int.injEq, PyData.bool.injEq, PyData.str.injEq, PyData.list.injEq, PyData.tuple.injEq, D.dat.injEq, Cell.lst.injEq, List.cons.injEq, Bool.not_true, Bool.not_false, Bool.or_false, Bool.or_true, Bool.false_or, Bool.true_or, Bool.and_true, Bool.true_and, Bool.and_false, Bool.false_and, decide_true, decide_false, decide_eq_true_eq, decide_eq_false_iff_not, true_and, and_true, false_and, and_false, Bool.false_eq_true, Bool.true_eq_false, reduceCtorEq, if_true, if_false, ite_true, ite_false, true_implies, false_implies, implies_true, forall_const, forall_eq', forall_eq, id, Bool.not_eq_true', Bool.not_eq_false', wipeE, Nat.zero_le, List.length_set, Nat.reduceAdd, Nat.reduceSub, List.replicate_succ, List.replicate_zero, Int.reduceToNat, Int.toNat_one, Int.toNat_zero, List.length_map, List.length_range, Int.toNat_natCast, TrnK, and_assoc, cut_hi, cut_lo, cut_last, List.drop_succ_cons, List.drop_zero, law_places_w T.law_places T.law_gcd]
    refine lc_map (g := fun j : Nat => .int (y * if (j : Int) = 0 then 1 else 0)) (by first | omega | (simp only [List.length_range, List.length_map, List.length_replicate, List.length_append, List.length_cons, List.length_nil]; omega)) (fun x hx R h => ?_) ?_
    · array_get_dec
      exact h
    · rw [first_only y (phi m) hphi2]
      have sy : sml y := by unfold sml; omega
      have r1 := o_reprT (ns := y :: List.replicate (phi m - 1) 0) (by rw [List.length_cons, List.length_replicate]; omega) (fun x hx => by
        rcases List.mem_cons.mp hx with rfl | hx
        · exact sy
        · rw [List.eq_of_mem_replicate hx]; unfold sml; decide)
      have r2 := o_reprI sy
      have a0 : (List.replicate (phi m - 1) (0 : Int)).any (· != 0) = false := by
        rw [List.any_eq_false]
        intro x hx
        rw [List.eq_of_mem_replicate hx]
        decide
      rw [List.map_cons] at r1
      array_get_dec
      simp only [rst_cons]
      simp (disch := first | assumption | omega | (simp only [List.length_replicate, List.length_map, List.length_range, List.length_append, List.length_cons, List.length_nil, List.length_set, List.length_take, List.length_drop, List.length_dropLast]; omega)) only [WB, tgsLen, exists_eq_left', exists_eq_left, exists_eq', Option.some.injEq, Option.map_some, Option.bind_some, List.getElem?_cons_zero, List.getElem?_cons_succ, List.set_cons_zero, List.set_cons_succ, List.any_cons, List.any_nil, List.map_cons, List.map_nil, List.cons_append, List.nil_append, List.length_cons, List.length_nil, PyData.int.injEq, PyData.bool.injEq, PyData.str.injEq, PyData.list.injEq, PyData.tuple.injEq, D.dat.injEq, Cell.lst.injEq, List.cons.injEq, Bool.not_true, Bool.not_false, Bool.or_false, Bool.or_true, Bool.false_or, Bool.true_or, Bool.and_true, Bool.true_and, Bool.and_false, Bool.false_and, decide_true, decide_false, decide_eq_true_eq, decide_eq_false_iff_not, true_and, and_true, false_and, and_false, Bool.false_eq_true, Bool.true_eq_false, reduceCtorEq, if_true, if_false, ite_true, ite_false, true_implies, false_implies, implies_true, forall_const, forall_eq', forall_eq, id, Bool.not_eq_true', Bool.not_eq_false', wipeE, Nat.zero_le, List.length_set, Nat.reduceAdd, Nat.reduceSub, List.replicate_succ, List.replicate_zero, Int.reduceToNat, Int.toNat_one, Int.toNat_zero, List.length_map, List.length_range, Int.toNat_natCast, TrnK, and_assoc, cut_hi, cut_lo, cut_last, List.drop_succ_cons, List.drop_zero, whole_w T.whole T.places T.shared, r1, r2, whole_of_w T.whole_of, a0]
      obtain ⟨v, vs, rfl⟩ : ∃ v vs, ns = v :: vs := by
        cases ns with
        | nil => simp at hl; omega
        | cons v vs => exact ⟨v, vs, rfl⟩
      rw [List.length_cons] at hl
      have sv := hb v (List.mem_cons_self ..)
      sizeOf_list_dec
      refine lc_flt (p := fun j : Nat => vs.getD j 0 != 0) (g := fun j : Nat => .int (1 + (j : Int))) (by first | omega | (simp only [List.length_range, List.length_map, List.length_replicate, List.length_append, List.length_cons, List.length_nil]; omega)) (fun x hx R h1 h2 => ?_) ?_
      · have hx := List.mem_range.mp hx
        array_get_dec
        exact ⟨fun z => h1 (by simpa using z), fun z => h2 (by simpa using z)⟩
      · sizeOf_list_dec
        have e1 : ((List.range vs.length).filter fun j => vs.getD j 0 != 0).isEmpty = !vs.any (· != 0) := by
          rw [Bool.eq_iff_iff, List.isEmpty_iff, List.filter_eq_nil_iff, Bool.not_eq_true', List.any_eq_false]
          constructor
          · intro z x hx
            obtain ⟨j, hj, rfl⟩ := List.mem_iff_getElem.mp hx
            have := z j (List.mem_range.mpr hj)
            rwa [List.getD_eq_getElem?_getD, List.getElem?_eq_getElem hj] at this
          · intro z j hj
            rw [List.mem_range] at hj
            rw [List.getD_eq_getElem?_getD, List.getElem?_eq_getElem hj]
            exact z _ (List.getElem_mem hj)
        have r3 := o_reprI sv
        cases e2 : vs.any (· != 0)
        · simp (disch := first | assumption | omega | (simp only [List.length_replicate, List.length_map, List.length_range, List.length_append, List.length_cons, List.length_nil, List.length_set, List.length_take, List.length_drop, List.length_dropLast]; omega)) only [WB, tgsLen, exists_eq_left', exists_eq_left, exists_eq', Option.some.injEq, Option.map_some, Option.bind_some, List.getElem?_cons_zero, List.getElem?_cons_succ, List.set_cons_zero, List.set_cons_succ, List.any_cons, List.any_nil, List.map_cons, List.map_nil, List.cons_append, List.nil_append, List.length_cons, List.length_nil, PyData.int.injEq, PyData.bool.injEq, PyData.str.injEq, PyData.list.injEq, PyData.tuple.injEq, D.dat.injEq, Cell.lst.injEq, List.cons.injEq, Bool.not_true, Bool.not_false, Bool.or_false, Bool.or_true, Bool.false_or, Bool.true_or, Bool.and_true, Bool.true_and, Bool.and_false, Bool.false_and, decide_true, decide_false, decide_eq_true_eq, decide_eq_false_iff_not, true_and, and_true, false_and, and_false, Bool.false_eq_true, Bool.true_eq_false, reduceCtorEq, if_true, if_false, ite_true, ite_false, true_implies, false_implies, implies_true, forall_const, forall_eq', forall_eq, id, Bool.not_eq_true', Bool.not_eq_false', wipeE, Nat.zero_le, List.length_set, Nat.reduceAdd, Nat.reduceSub, List.replicate_succ, List.replicate_zero, Int.reduceToNat, Int.toNat_one, Int.toNat_zero, List.length_map, List.length_range, Int.toNat_natCast, TrnK, and_assoc, cut_hi, cut_lo, cut_last, List.drop_succ_cons, List.drop_zero, whole_of_w T.whole_of, e1, e2, r3]
          exact h c (hF.mono (by omega))
        · simp (disch := first | assumption | omega | (simp only [List.length_replicate, List.length_map, List.length_range, List.length_append, List.length_cons, List.length_nil, List.length_set, List.length_take, List.length_drop, List.length_dropLast]; omega)) only [WB, tgsLen, exists_eq_left', exists_eq_left, exists_eq', Option.some.injEq, Option.map_some, Option.bind_some, List.getElem?_cons_zero, List.getElem?_cons_succ, List.set_cons_zero, List.set_cons_succ, List.any_cons, List.any_nil, List.map_cons, List.map_nil, List.cons_append, List.nil_append, List.length_cons, List.length_nil, PyData.int.injEq, PyData.bool.injEq, PyData.str.injEq, PyData.list.injEq, PyData.tuple.injEq, D.dat.injEq, Cell.lst.injEq, List.cons.injEq, Bool.not_true, Bool.not_false, Bool.or_false, Bool.or_true, Bool.false_or, Bool.true_or, Bool.and_true, Bool.true_and, Bool.and_false, Bool.false_and, decide_true, decide_false, decide_eq_true_eq, decide_eq_false_iff_not, true_and, and_true, false_and, and_false, Bool.false_eq_true, Bool.true_eq_false, reduceCtorEq, if_true, if_false, ite_true, ite_false, true_implies, false_implies, implies_true, forall_const, forall_eq', forall_eq, id, Bool.not_eq_true', Bool.not_eq_false', wipeE, Nat.zero_le, List.length_set, Nat.reduceAdd, Nat.reduceSub, List.replicate_succ, List.replicate_zero, Int.reduceToNat, Int.toNat_one, Int.toNat_zero, List.length_map, List.length_range, Int.toNat_natCast, TrnK, and_assoc, cut_hi, cut_lo, cut_last, List.drop_succ_cons, List.drop_zero, whole_of_w T.whole_of, e1, e2, o_reprN, PyData.shown]
          exact h c (hF.mono (by omega))
theorem main_ok {i1 i2 i3 i4 i5 i6 i7 i8 i9 j1 j2 j3 j4 j5 j6 j7 j8 : Nat} (T : Tx P i1 i2 i3 i4 i5 i6 i7 i8 i9 j1 j2 j3 j4 j5 j6 j7) (hr : P[j8]? = some (d_law_right i1 i2 i3 i4 i5 i6 i7 i8 i9)) (hf : P[f]? = some (d_law j8 j6 j1 i3 j7)) (hw : 65 ≤ w) (hk : 4 < k)
    {ns : List Int} (hn : ns.length ≤ 63) : wp Xp (callF P w k f [.dat (.list (ns.map .int))]) [] fun d _ => d = .dat (.bool true) := by
  refine wp_call' hf rfl (by omega) ?_; simp only [d_law, List.map_cons, List.map_nil, List.length_cons, List.length_nil]; rw [wp_blk]
  sizeOf_list_dec
  refine feed_c T.law_feed (by omega) hn fun c hF xs hc => ?_
  sizeOf_list_dec
  rw [← hc]
  refine lc_flt (p := fun _ => false) (g := fun j : Nat => .int (1 + (j : Int))) (by first | omega | (simp only [List.length_range, List.length_map, List.length_replicate, List.length_append, List.length_cons, List.length_nil]; omega)) (fun x hx R h1 h2 => ?_) ?_
  · have hx : x < 60 := List.mem_range.mp hx
    rw [show (1 + (x : Int)) = ((1 + x : Nat) : Int) by omega]
    have hp := phi_le (1 + x)
    simp (disch := first | assumption | omega | (simp only [List.length_replicate, List.length_map, List.length_range, List.length_append, List.length_cons, List.length_nil, List.length_set, List.length_take, List.length_drop, List.length_dropLast]; omega)) only [WB, tgsLen, exists_eq_left', exists_eq_left, exists_eq', Option.some.injEq, Option.map_some, Option.bind_some, List.getElem?_cons_zero, List.getElem?_cons_succ, List.set_cons_zero, List.set_cons_succ, List.any_cons, List.any_nil, List.map_cons, List.map_nil, List.cons_append, List.nil_append, List.length_cons, List.length_nil, PyData.int.injEq, PyData.bool.injEq, PyData.str.injEq, PyData.list.injEq, PyData.tuple.injEq, D.dat.injEq, Cell.lst.injEq, List.cons.injEq, Bool.not_true, Bool.not_false, Bool.or_false, Bool.or_true, Bool.false_or, Bool.true_or, Bool.and_true, Bool.true_and, Bool.and_false, Bool.false_and, decide_true, decide_false, decide_eq_true_eq, decide_eq_false_iff_not, true_and, and_true, false_and, and_false, Bool.false_eq_true, Bool.true_eq_false, reduceCtorEq, if_true, if_false, ite_true, ite_false, true_implies, false_implies, implies_true, forall_const, forall_eq', forall_eq, id, Bool.not_eq_true', Bool.not_eq_false', wipeE, Nat.zero_le, List.length_set, Nat.reduceAdd, Nat.reduceSub, List.replicate_succ, List.replicate_zero, Int.reduceToNat, Int.toNat_one, Int.toNat_zero, List.length_map, List.length_range, Int.toNat_natCast, TrnK, and_assoc, cut_hi, cut_lo, cut_last, List.drop_succ_cons, List.drop_zero, places_w T.places T.shared, law_places_w T.law_places T.law_gcd, o_reprI (show sml (phi (1 + x) : Int) by unfold sml; omega)]
    exact h2 rfl
  · rw [show (List.filter (fun _ : Nat => false) (List.range ((61 : Int) - 1).toNat)) = [] from List.filter_eq_nil_iff.mpr fun _ _ => by decide]
    sizeOf_list_dec
    refine for_rng (fun j ρ s => ∃ (x2 : Option D) (c : Cell), ρ = [some (.dat (.list (ns.map .int))), some (.ref 0), x2, none] ∧ s = [c] ∧ FdC (3000 * j) c) ⟨_, _, rfl, rfl, hF⟩ ?_ ?_
    · rintro j ρ1 s1 hj ⟨x2, c, rfl, rfl, hF⟩
      sizeOf_list_dec
      refine law_n_ok T.law_n T.law_draw hw (by omega) (i := 0) rfl hF (by omega) fun m c m1 m2 hF => ?_
      sizeOf_list_dec
      refine law_right_ok T hr hw (by omega) (i := 0) rfl hF (by omega) m1 m2 fun c hF => ?_
      sizeOf_list_dec
      exact ⟨_, c, rfl, rfl, hF.mono (by omega)⟩
    · rintro ρ1 s1 ⟨x2, c, rfl, rfl, hF⟩
      sizeOf_list_dec
theorem main_law {i1 i2 i3 i4 i5 i6 i7 i8 i9 j1 j2 j3 j4 j5 j6 j7 j8 : Nat} (T : Tx P i1 i2 i3 i4 i5 i6 i7 i8 i9 j1 j2 j3 j4 j5 j6 j7) (hr : P[j8]? = some (d_law_right i1 i2 i3 i4 i5 i6 i7 i8 i9)) (hf : P[f]? = some (d_law j8 j6 j1 i3 j7)) (hw : 65 ≤ w) (hk : 4 < k) : LawOk P w k f :=
  ⟨fun _ hn => main_ok T hr hf hw hk hn⟩
end
end K01
end K01

set_option maxRecDepth 100000
set_option autoImplicit false
set_option maxHeartbeats 8000000
namespace K01
open PySem PySem.Spec PyProof.Rows L2 MP

def P : List Def := [d_shared, d_places 0, d_whole 1, d_is_whole, d_is_number 3 1, d_whole_of, d_law_feed, d_law_draw, d_law_gcd, d_law_places 8, d_law_is_number 9, d_law_n 7, d_law_whole 7, d_law_number 7 12 9, d_law_truth, d_law_bent 7, d_law_right 5 2 9 12 15 14 10 4 13, d_law 16 11 1 9 6]
def T : Tab := ⟨P, []⟩
abbrev fuel : Nat := 100
theorem law_ok : LawOk T.P fuel 5 17 := main_law (P := T.P) (T := (⟨rfl, rfl, rfl, rfl, rfl, rfl, rfl, rfl, rfl, rfl, rfl, rfl, rfl, rfl, rfl, rfl⟩ : Tx T.P 5 2 9 12 15 14 10 4 13 1 8 7 3 0 11 6)) (j8 := 16) rfl rfl (by decide) (by decide)
theorem c0 : chkDef T (d_shared) (stAt PySem.Challenge.pw_classtab_k01_numbers_by_kind 1) = true := by decide +kernel
theorem c1 : chkDef T (d_places 0) (stAt PySem.Challenge.pw_classtab_k01_numbers_by_kind 2) = true := by decide +kernel
theorem c2 : chkDef T (d_whole 1) (stAt PySem.Challenge.pw_classtab_k01_numbers_by_kind 3) = true := by decide +kernel
theorem c3 : chkDef T (d_is_whole) (stAt PySem.Challenge.pw_classtab_k01_numbers_by_kind 4) = true := by decide +kernel
theorem c4 : chkDef T (d_is_number 3 1) (stAt PySem.Challenge.pw_classtab_k01_numbers_by_kind 5) = true := by decide +kernel
theorem c5 : chkDef T (d_whole_of) (stAt PySem.Challenge.pw_classtab_k01_numbers_by_kind 6) = true := by decide +kernel
theorem c6 : chkDef T (d_law_feed) (stAt PySem.Challenge.pw_classtab_k01_numbers_by_kind 8) = true := by decide +kernel
theorem c7 : chkDef T (d_law_draw) (stAt PySem.Challenge.pw_classtab_k01_numbers_by_kind 9) = true := by decide +kernel
theorem c8 : chkDef T (d_law_gcd) (stAt PySem.Challenge.pw_classtab_k01_numbers_by_kind 10) = true := by decide +kernel
theorem c9 : chkDef T (d_law_places 8) (stAt PySem.Challenge.pw_classtab_k01_numbers_by_kind 11) = true := by decide +kernel
theorem c10 : chkDef T (d_law_is_number 9) (stAt PySem.Challenge.pw_classtab_k01_numbers_by_kind 12) = true := by decide +kernel
theorem c11 : chkDef T (d_law_n 7) (stAt PySem.Challenge.pw_classtab_k01_numbers_by_kind 13) = true := by decide +kernel
theorem c12 : chkDef T (d_law_whole 7) (stAt PySem.Challenge.pw_classtab_k01_numbers_by_kind 14) = true := by decide +kernel
theorem c13 : chkDef T (d_law_number 7 12 9) (stAt PySem.Challenge.pw_classtab_k01_numbers_by_kind 15) = true := by decide +kernel
theorem c14 : chkDef T (d_law_truth) (stAt PySem.Challenge.pw_classtab_k01_numbers_by_kind 16) = true := by decide +kernel
theorem c15 : chkDef T (d_law_bent 7) (stAt PySem.Challenge.pw_classtab_k01_numbers_by_kind 17) = true := by decide +kernel
theorem c16 : chkDef T (d_law_right 5 2 9 12 15 14 10 4 13) (stAt PySem.Challenge.pw_classtab_k01_numbers_by_kind 18) = true := by decide +kernel
theorem c17 : chkDef T (d_law 16 11 1 9 6) (stAt PySem.Challenge.pw_classtab_k01_numbers_by_kind 19) = true := by decide +kernel
end K01
open PySem PySem.W PyProof.Rows
set_option maxRecDepth 100000 in
set_option maxHeartbeats 0 in
theorem PySem.Challenge.cw_classtab_k01_numbers_by_kind_holds : PySem.Challenge.rw_classtab_k01_numbers_by_kind.Holds := by
  w_on; o_law; k_head; (case hw => w_witness2)
  k_fill
  refine MP.walk_G (l := PySem.Challenge.rw_classtab_k01_numbers_by_kind) (n := 63) (k := 5) (x := "_law_script") (CX := fun w => L2.CX PySem.Challenge.pw_classtab_k01_numbers_by_kind w) (sp := fun w => MP.spOf MP.xr0 ⟨MP.callF K01.T.P K01.fuel 5, K01.fuel⟩ 17) rfl (by decide) rfl ⟨rfl, by decide, by decide⟩ rfl (fun w h Y => PySem.W.kIn_of Y) ?F (fun w => MP.noLists_of ?NL) (fun w H a ob ns hl hs => MP.law_asks K01.law_ok H a ob ns hl hs) (fun w => MP.cx_none PySem.Challenge.pw_classtab_k01_numbers_by_kind w [])
  case NL => exact Eq.refl true
  case F =>
    intro w mg fa h KX G hmg
    refine MP.law_F (T := K01.T) (d := K01.d_law 16 11 1 9 6) (MP.pok_of (prog := PySem.Challenge.pw_classtab_k01_numbers_by_kind) (tops := [1, 2, 3, 4, 5, 6, 8, 9, 10, 11, 12, 13, 14, 15, 16, 17, 18, 19]) KX G ⟨?mpd0, K01.c0, ?mpd1, K01.c1, ?mpd2, K01.c2, ?mpd3, K01.c3, ?mpd4, K01.c4, ?mpd5, K01.c5, ?mpd6, K01.c6, ?mpd7, K01.c7, ?mpd8, K01.c8, ?mpd9, K01.c9, ?mpd10, K01.c10, ?mpd11, K01.c11, ?mpd12, K01.c12, ?mpd13, K01.c13, ?mpd14, K01.c14, ?mpd15, K01.c15, ?mpd16, K01.c16, ?mpd17, K01.c17, True.intro⟩ ⟨?mpb0, ?mpb1, ?mpb2, ?mpb3, ?mpb4, ?mpb5, ?mpb6, ?mpb7, ?mpb8, ?mpb9, ?mpb10, ?mpb11, ?mpb12, ?mpb13, ?mpb14, ?mpb15, ?mpb16, ?mpb17, ?mpb18, True.intro⟩ True.intro) rfl hmg
    case mpd0 => refine' MP.def_at KX G ?a ?l ?c ?k; (case a => k_is); (case l => k_is); (case c => k_is); (case k => k_is)
    case mpd1 => refine' MP.def_at KX G ?a ?l ?c ?k; (case a => k_is); (case l => k_is); (case c => k_is); (case k => k_is)
    case mpd2 => refine' MP.def_at KX G ?a ?l ?c ?k; (case a => k_is); (case l => k_is); (case c => k_is); (case k => k_is)
    case mpd3 => refine' MP.def_at KX G ?a ?l ?c ?k; (case a => k_is); (case l => k_is); (case c => k_is); (case k => k_is)
    case mpd4 => refine' MP.def_at KX G ?a ?l ?c ?k; (case a => k_is); (case l => k_is); (case c => k_is); (case k => k_is)
    case mpd5 => refine' MP.def_at KX G ?a ?l ?c ?k; (case a => k_is); (case l => k_is); (case c => k_is); (case k => k_is)
    case mpd6 => refine' MP.def_at KX G ?a ?l ?c ?k; (case a => k_is); (case l => k_is); (case c => k_is); (case k => k_is)
    case mpd7 => refine' MP.def_at KX G ?a ?l ?c ?k; (case a => k_is); (case l => k_is); (case c => k_is); (case k => k_is)
    case mpd8 => refine' MP.def_at KX G ?a ?l ?c ?k; (case a => k_is); (case l => k_is); (case c => k_is); (case k => k_is)
    case mpd9 => refine' MP.def_at KX G ?a ?l ?c ?k; (case a => k_is); (case l => k_is); (case c => k_is); (case k => k_is)
    case mpd10 => refine' MP.def_at KX G ?a ?l ?c ?k; (case a => k_is); (case l => k_is); (case c => k_is); (case k => k_is)
    case mpd11 => refine' MP.def_at KX G ?a ?l ?c ?k; (case a => k_is); (case l => k_is); (case c => k_is); (case k => k_is)
    case mpd12 => refine' MP.def_at KX G ?a ?l ?c ?k; (case a => k_is); (case l => k_is); (case c => k_is); (case k => k_is)
    case mpd13 => refine' MP.def_at KX G ?a ?l ?c ?k; (case a => k_is); (case l => k_is); (case c => k_is); (case k => k_is)
    case mpd14 => refine' MP.def_at KX G ?a ?l ?c ?k; (case a => k_is); (case l => k_is); (case c => k_is); (case k => k_is)
    case mpd15 => refine' MP.def_at KX G ?a ?l ?c ?k; (case a => k_is); (case l => k_is); (case c => k_is); (case k => k_is)
    case mpd16 => refine' MP.def_at KX G ?a ?l ?c ?k; (case a => k_is); (case l => k_is); (case c => k_is); (case k => k_is)
    case mpd17 => refine' MP.def_at KX G ?a ?l ?c ?k; (case a => k_is); (case l => k_is); (case c => k_is); (case k => k_is)
    case mpb0 => k_is
    case mpb1 => k_is
    case mpb2 => k_is
    case mpb3 => k_is
    case mpb4 => k_is
    case mpb5 => k_is
    case mpb6 => k_is
    case mpb7 => k_is
    case mpb8 => k_is
    case mpb9 => k_is
    case mpb10 => k_is
    case mpb11 => k_is
    case mpb12 => k_is
    case mpb13 => k_is
    case mpb14 => k_is
    case mpb15 => k_is
    case mpb16 => k_is
    case mpb17 => k_is
    case mpb18 => k_is
