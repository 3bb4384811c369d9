import PyProof.Rows.All
import Wide.All
import OpenK.AllK
import Wide.FinOn
import HandS.ForMost
import HandS.Walk
import HandS.Zip
import HandS.Deep
import HandS.TupAny
import HandS.TupMul
import HandS.TupLe
import HandS.Style
import HandS.IsInst
import HandS.DictComp
import HandS.Conv
import HandS.Codes
import HandS.Lambda
import HandS.ExcCtx
import HandS.CallLocal
import HandS.HotCalls
import HandS.Wide
import HandS.RaiseMore
import HandS.SetFor
import KE.DatumOrd
import KE.GoesMore
import HandS.Hot
import HandS.Iter
import HandS.Comp
import KE.GoesZip
import PyProof.ZipIter
import HandS.ExcIs
import HandS.EndTab
import HandS.Words
import HandS.Ends
import HandS.NestedK
import PyProof.TableCode
import PySem.Challenge.RW_quires_k10_errors_of_gatherings
/-! A small evaluator for the part of Python that this program and its laws use. Values are plain data; what is changed in place lies in cells of a store. -/
set_option linter.all false
namespace QE

inductive Val where
  | non
  | bl (b : Bool)
  | int (i : Int)
  | str (s : List Nat)
  | tup (xs : List Val)
  /-- a list that is only read from here on; fresh: nobody else knows it yet -/
  | lst (fresh : Bool) (xs : List Val)
  /-- a dict that is only read; t: its keys are tuples -/
  | dic (fresh : Bool) (t : Bool) (kvs : List (Val × Val))
  /-- a cell of the store -/
  | ref (n : Nat)
  /-- a list of ints that the text has written -/
  | kls (is : List Int)
  /-- a def, and where it lies -/
  | fn (f a : Nat)
  /-- an exception that is handled: its class, where it lies -/
  | exn (k a : Nat)
  deriving Inhabited

/-- what a cell holds -/
inductive Ob where
  | lst (xs : List Val)
  | dic (t : Bool) (kvs : List (Val × Val))
  /-- a table of code objects: where it lies, the name that they bear -/
  | tbl (p : Nat) (q : List Nat)
  deriving Inhabited

abbrev Sto := List Ob
abbrev Env := List (Option Val)

inductive R (α : Type) where
  | ok (a : α) (S : Sto)
  | exc (c : Nat) (ps : List Val) (S : Sto)
  | bad

def R.bind {α β : Type} (r : R α) (f : α → Sto → R β) : R β := match r with
  | .ok a S => f a S
  | .exc c p S => .exc c p S
  | .bad => .bad
/-- an exception is not let out -/
def R.calm {α : Type} (r : R α) : R α := match r with
  | .ok a S => .ok a S
  | _ => .bad
def R.of {α : Type} (o : Option α) (S : Sto) : R α := match o with
  | some a => .ok a S
  | none => .bad

def Val.settle : Val → Val
  | .lst _ xs => .lst false xs
  | .dic _ t kvs => .dic false t kvs
  | v => v

/-- it is not a value that nobody else knows yet -/
def Val.st : Val → Bool
  | .lst f _ => !f
  | .dic f _ _ => !f
  | _ => true

def lim : Nat := 16777216

/-! ### data: depth, no cells; equality -/
mutual
def Val.chk : Nat → Val → Bool
  | _, .non => true
  | _, .bl _ => true
  | _, .int _ => true
  | _, .str s => s.all (· < 1114112)
  | 0, .tup _ => false
  | d + 1, .tup xs => Val.chkL d xs
  | 0, .lst _ _ => false
  | d + 1, .lst _ xs => Val.chkL d xs
  | _, _ => false
def Val.chkL : Nat → List Val → Bool
  | _, [] => true
  | d, x :: xs => Val.chk d x && Val.chkL d xs
end
mutual
def Val.eqv : Val → Val → Bool
  | .non, .non => true
  | .bl a, .bl b => a == b
  | .bl a, .int b => (if a then 1 else 0) == b
  | .int a, .bl b => a == (if b then 1 else 0)
  | .int a, .int b => a == b
  | .str a, .str b => a == b
  | .tup xs, .tup ys => Val.eqvL xs ys
  | .lst _ xs, .lst _ ys => Val.eqvL xs ys
  | _, _ => false
def Val.eqvL : List Val → List Val → Bool
  | [], [] => true
  | x :: xs, y :: ys => Val.eqv x y && Val.eqvL xs ys
  | _, _ => false
end
/-- a cell's list as it stands -/
def res (S : Sto) (v : Val) : Val := match v with
  | .ref n => (match S[n]? with
    | some (.lst xs) => .lst false xs
    | _ => v)
  | v => v
def eqVal (S : Sto) (x y : Val) : Option Bool :=
  if (res S x).chk 64 && (res S y).chk 64 then some ((res S x).eqv (res S y)) else none

def asList (S : Sto) (v : Val) : Option (List Val) := match v with
  | .lst _ xs => some xs
  | .ref n => (match S[n]? with
    | some (.lst xs) => some xs
    | _ => none)
  | _ => none
def asTup (v : Val) : Option (List Val) := match v with
  | .tup xs => some xs
  | _ => none
def asSeq (S : Sto) (v : Val) : Option (List Val) := match v with
  | .tup xs => some xs
  | v => asList S v

/-! ### keys of dicts -/
def Val.flatKey : Val → Bool
  | .int _ => true
  | .str _ => true
  | _ => false
def Val.isKey (t : Bool) (k : Val) : Bool := if t then (match k with
  | .tup xs => xs.all Val.flatKey
  | _ => false) else k.flatKey
def flatEq : Val → Val → Bool
  | .int a, .int b => a == b
  | .str a, .str b => a == b
  | _, _ => false
def flatEqL : List Val → List Val → Bool
  | [], [] => true
  | x :: xs, y :: ys => flatEq x y && flatEqL xs ys
  | _, _ => false
def keyEq : Val → Val → Bool
  | .tup xs, .tup ys => flatEqL xs ys
  | x, y => flatEq x y
def dGet (k : Val) : List (Val × Val) → Option Val
  | [] => none
  | (q, v) :: r => if keyEq q k then some v else dGet k r
def dHas (k : Val) : List (Val × Val) → Bool
  | [] => false
  | (q, _) :: r => keyEq q k || dHas k r
def dMap (k v : Val) : List (Val × Val) → List (Val × Val)
  | [] => []
  | (q, u) :: r => (if keyEq q k then (q, v) else (q, u)) :: dMap k v r
def dPut (k v : Val) (kvs : List (Val × Val)) : List (Val × Val) := if dHas k kvs then dMap k v kvs else kvs ++ [(k, v)]
def asDic (S : Sto) (v : Val) : Option (Bool × List (Val × Val)) := match v with
  | .dic _ t kvs => some (t, kvs)
  | .ref n => (match S[n]? with
    | some (.dic t kvs) => some (t, kvs)
    | _ => none)
  | _ => none

/-! ### operators -/
inductive BOp where
  | add | sub | mul | fdiv | mod | pow
  deriving DecidableEq
inductive COp where
  | eq | ne | lt | le | gt | ge | in_ | nin | is_ | isn
  deriving DecidableEq

def small (i : Int) : Bool := decide (-(2 ^ 64) < i) && decide (i < 2 ^ 64)
def rep {α : Type} : Nat → List α → List α
  | 0, _ => []
  | n + 1, xs => xs ++ rep n xs

def addV (S : Sto) : Val → Val → Option Val
  | .int a, .int b => some (.int (a + b))
  | .str a, .str b => if a.length + b.length ≤ lim then some (.str (a ++ b)) else none
  | .tup a, .tup b => if a.length + b.length ≤ lim then some (.tup (a ++ b)) else none
  | x, y => (match asList S x, asList S y with
    | some a, some b => if a.length + b.length ≤ lim then some (.lst true (a ++ b)) else none
    | _, _ => none)
def subV (_ : Sto) : Val → Val → Option Val
  | .int a, .int b => some (.int (a - b))
  | _, _ => none
def mulV (_ : Sto) : Val → Val → Option Val
  | .int a, .int b => if small a || small b then some (.int (a * b)) else none
  | .tup a, .int k => if a.isEmpty then none else if 2 ≤ k ∧ k ≤ 1000 ∧ a.length ≤ 1000 then some (.tup (rep k.toNat a)) else none
  | .lst true a, .int k => if 0 ≤ k ∧ k ≤ 1000 ∧ a.length ≤ 1000 then some (.lst true (rep k.toNat a)) else none
  | _, _ => none
def fdivV (_ : Sto) : Val → Val → Option Val
  | .int a, .int b => if b ≠ 0 ∧ b.natAbs < 1073741824 then some (.int (a.fdiv b)) else none
  | _, _ => none
def modV (_ : Sto) : Val → Val → Option Val
  | .int a, .int b => if b ≠ 0 then some (.int (a.fmod b)) else none
  | _, _ => none
def powV (_ : Sto) : Val → Val → Option Val
  | .int a, .int b => if 0 ≤ b ∧ b ≤ 1000000 ∧ a.natAbs < 2 ^ 64 then some (.int (a ^ b.toNat)) else none
  | _, _ => none
def bin (S : Sto) : BOp → Val → Val → Option Val
  | .add => addV S
  | .sub => subV S
  | .mul => mulV S
  | .fdiv => fdivV S
  | .mod => modV S
  | .pow => powV S

def lexLt : List Nat → List Nat → Bool
  | [], [] => false
  | [], _ :: _ => true
  | _ :: _, [] => false
  | a :: r, b :: s => if a = b then lexLt r s else decide (a < b)
def ints? : List Val → Option (List Int)
  | [] => some []
  | .int i :: r => (match ints? r with
    | some l => some (i :: l)
    | none => none)
  | _ => none
def lexLtI : List Int → List Int → Bool
  | [], [] => false
  | [], _ :: _ => true
  | _ :: _, [] => false
  | a :: r, b :: s => if a = b then lexLtI r s else decide (a < b)
/-- x < y of ints, of texts, of tuples of ints -/
def ltVal : Val → Val → Option Bool
  | .int a, .int b => some (decide (a < b))
  | .str a, .str b => some (lexLt a b)
  | .tup a, .tup b => (match ints? a, ints? b with
    | some x, some y => some (lexLtI x y)
    | _, _ => none)
  | _, _ => none
def leVal : Val → Val → Option Bool
  | .int a, .int b => some (decide (a ≤ b))
  | _, _ => none
def gtVal : Val → Val → Option Bool
  | .int a, .int b => some (decide (b < a))
  | _, _ => none
def anyEq (_ : Sto) (x : Val) (ys : List Val) : Option Bool :=
  if x.chk 64 && Val.chkL 63 ys then some (ys.any fun y => y.eqv x) else none
def Val.flat : Val → Bool
  | .non => true
  | .bl _ => true
  | .int _ => true
  | .str _ => true
  | _ => false
def hasStr (b : List Nat) : Val → Option Bool
  | .str [c] => some (decide (c ∈ b))
  | _ => none
def hasFlat (x : Val) (ys : List Val) : Option Bool := if x.flat && ys.all Val.flat then some (ys.any fun y => y.eqv x) else none
def hasDic (x : Val) : Option (Bool × List (Val × Val)) → Option Bool
  | some (t, kvs) => if x.isKey t then some (dGet x kvs).isSome else none
  | none => none
def isIn (S : Sto) (x y : Val) : Option Bool := match y with
  | .str b => hasStr b x
  | .tup ys => hasFlat x ys
  | y => (match asList S y with
    | some ys => anyEq S x ys
    | none => hasDic x (asDic S y))
def isVal : Val → Val → Option Bool
  | .non, .non => some true
  | .bl a, .bl b => some (decide (a = b))
  | _, .non => some false
  | _, _ => none
def nt (o : Option Bool) : Option Bool := match o with
  | some b => some (!b)
  | none => none
def cmp (S : Sto) : COp → Val → Val → Option Bool
  | .eq, x, y => eqVal S x y
  | .ne, x, y => nt (eqVal S x y)
  | .lt, x, y => ltVal x y
  | .gt, x, y => gtVal x y
  | .le, x, y => leVal x y
  | .ge, x, y => leVal y x
  | .in_, x, y => isIn S x y
  | .nin, x, y => nt (isIn S x y)
  | .is_, x, y => isVal x y
  | .isn, x, y => nt (isVal x y)

/-! ### items, slices -/
def ixN (n : Nat) (i : Int) : Option Nat :=
  if 0 ≤ i then (if i < n then some i.toNat else none) else (if -(n : Int) ≤ i then some (i + n).toNat else none)
def atI {α : Type} (xs : List α) (i : Int) : Option α := match ixN xs.length i with
  | some j => xs[j]?
  | none => none
def clip (n d : Nat) : Option Int → Nat
  | none => d
  | some i => if i < 0 then (i + n).toNat else min i.toNat n
def cut {α : Type} (xs : List α) (lo hi : Option Int) : List α := (xs.drop (clip xs.length 0 lo)).take (clip xs.length xs.length hi - clip xs.length 0 lo)
def itemOf {α : Type} (xs : List α) : Val → Option α
  | .int i => atI xs i
  | _ => none
def itemDic (i : Val) : Option (Bool × List (Val × Val)) → Option Val
  | some (t, kvs) => if i.isKey t then dGet i kvs else none
  | none => none
def itemStr : Option Nat → Option Val
  | some c => some (.str [c])
  | none => none
def item (S : Sto) (o i : Val) : Option Val := match o with
  | .tup xs => itemOf xs i
  | .str s => if s.length ≤ lim then itemStr (itemOf s i) else none
  | o => (match asList S o with
    | some xs => itemOf xs i
    | none => itemDic i (asDic S o))
def slice (S : Sto) (o : Val) (lo hi : Option Int) : Option Val := match o with
  | .tup xs => some (.tup (cut xs lo hi))
  | .str s => if s.length ≤ lim then some (.str (cut s lo hi)) else none
  | o => (match asList S o with
    | some xs => some (.lst true (cut xs lo hi))
    | none => none)

/-! ### built-ins -/
inductive Ty where
  | int | bool | str | tuple | list
  deriving DecidableEq
/-- the name of a value's type -/
def tyName (S : Sto) : Val → Option Ty
  | .non => none
  | .bl _ => some .bool
  | .int _ => some .int
  | .str _ => some .str
  | .tup _ => some .tuple
  | .lst _ _ => some .list
  | .ref n => (match S[n]? with
    | some (.lst _) => some .list
    | _ => none)
  | _ => none
def isNon : Val → Bool
  | .non => true
  | _ => false
def isTy (S : Sto) (t : Ty) (v : Val) : Option Bool := match tyName S v with
  | some u => some (decide (u = t) || (decide (u = .bool) && decide (t = .int)))
  | none => if isNon v then some false else none
inductive Bi where
  | len | all | any | list | tuple | sum | min2 | max2 | abs | int | str | minL | dict
  deriving DecidableEq
def bools? : List Val → Option (List Bool)
  | [] => some []
  | .bl b :: r => (match bools? r with
    | some l => some (b :: l)
    | none => none)
  | _ => none
/-- the figures of n, at most f of them -/
def figs : Nat → Nat → List Nat → List Nat
  | 0, _, acc => acc
  | f + 1, n, acc => if n < 10 then (48 + n) :: acc else figs f (n / 10) ((48 + n % 10) :: acc)
def lenOf (S : Sto) : Val → Option Val
  | .str s => if s.length ≤ lim then some (.int s.length) else none
  | v => (match asSeq S v with
    | some xs => some (.int xs.length)
    | none => none)
def boolsV (S : Sto) (v : Val) : Option (List Bool) := match asList S v with
  | some xs => bools? xs
  | none => none
def intsV (S : Sto) (v : Val) : Option (List Int) := match asList S v with
  | some xs => ints? xs
  | none => none
def listOf (S : Sto) (v : Val) : Option Val := match v with
  | .kls ns => some (.lst true (ns.map .int))
  | v => (match asSeq S v with
    | some xs => some (.lst true xs)
    | none => none)
def tupleOf (S : Sto) (v : Val) : Option Val := match asSeq S v with
  | some xs => some (.tup xs)
  | none => none
def strVal : Val → Option Val
  | .int n => if 0 ≤ n ∧ n < 10 ^ 10 then some (.str (figs 10 n.toNat [])) else none
  | .str s => some (.str s)
  | _ => none
def pairs? : List Val → Option (List (Int × Int))
  | [] => some []
  | .tup [.int a, .int b] :: r => (match pairs? r with
    | some l => some ((a, b) :: l)
    | none => none)
  | _ => none
def minI (a : Int) (l : List Int) : Int := l.foldl (fun m x => if x < m then x else m) a
def ltP (x y : Int × Int) : Bool := if x.1 = y.1 then decide (x.2 < y.2) else decide (x.1 < y.1)
def minP (a : Int × Int) (l : List (Int × Int)) : Int × Int := l.foldl (fun m x => if ltP x m then x else m) a
/-- the least of ints, or of pairs of ints -/
def minV (xs : List Val) : Option Val := match ints? xs with
  | some (a :: l) => some (.int (minI a l))
  | some [] => none
  | none => (match pairs? xs with
    | some (a :: l) => some (.tup [.int (minP a l).1, .int (minP a l).2])
    | _ => none)
/-- a dict of pairs, later ones over earlier ones -/
def dictV : List Val → List (Val × Val) → Option (List (Val × Val))
  | [], acc => some acc
  | .tup [k, v] :: r, acc => if k.flatKey then dictV r (dPut k v acc) else none
  | _, _ => none
def callBi (S : Sto) : Bi → List Val → Option Val
  | .len, [v] => lenOf S v
  | .all, [v] => (match boolsV S v with
    | some bs => some (.bl (bs.all id))
    | none => none)
  | .any, [v] => (match boolsV S v with
    | some bs => some (.bl (bs.any id))
    | none => none)
  | .list, [v] => listOf S v
  | .tuple, [v] => tupleOf S v
  | .sum, [v] => (match intsV S v with
    | some is => some (.int is.sum)
    | none => none)
  | .min2, [.int a, .int b] => some (.int (if b < a then b else a))
  | .max2, [.int a, .int b] => some (.int (if b > a then b else a))
  | .abs, [.int a] => some (.int (if a < 0 then -a else a))
  | .int, [.int a] => some (.int a)
  | .str, [v] => strVal v
  | .minL, [v] => (match asList S v with
    | some xs => minV xs
    | none => none)
  | .dict, [v] => (match asList S v with
    | some xs => if xs.length ≤ lim then (match dictV xs [] with
      | some kvs => some (.dic true false kvs)
      | none => none) else none
    | none => none)
  | _, _ => none

/-- methods that change nothing -/
inductive Me where
  | count | index
  deriving DecidableEq
def indexOf (x : Val) : List Val → Nat → Option Nat
  | [], _ => none
  | y :: r, n => if y.eqv x then some n else indexOf x r (n + 1)
def idxOf (x : Val) (xs : List Val) : Option Val := if x.chk 64 && Val.chkL 63 xs then (match indexOf x xs 0 with
    | some n => some (.int n)
    | none => none) else none
def callMe (S : Sto) : Me → Val → List Val → Option Val
  | .count, o, [.int i] => (match intsV S o with
    | some is => some (.int (is.count i))
    | none => none)
  | .index, o, [x] => (match asList S o with
    | some xs => idxOf x xs
    | none => none)
  | _, _, _ => none

/-! ### cells -/
mutual
/-- no cell from b on -/
def Val.low (b : Nat) : Val → Bool
  | .tup xs => Val.lowL b xs
  | .lst _ xs => Val.lowL b xs
  | .dic _ _ kvs => Val.lowD b kvs
  | .ref n => decide (n < b)
  | _ => true
def Val.lowL (b : Nat) : List Val → Bool
  | [] => true
  | x :: xs => Val.low b x && Val.lowL b xs
def Val.lowD (b : Nat) : List (Val × Val) → Bool
  | [] => true
  | (_, x) :: xs => Val.low b x && Val.lowD b xs
end
/-- what may be put into cell n by a def that began with b cells -/
def mayPut (b n : Nat) (v : Val) : Bool := decide (b ≤ n) || v.low 0
def append (b : Nat) (S : Sto) (o v : Val) : R Val := match o with
  | .ref n => (match S[n]? with
    | some (.lst xs) => if xs.length < lim && mayPut b n v.settle then .ok .non (S.set n (.lst (xs ++ [v.settle]))) else .bad
    | _ => .bad)
  | _ => .bad
def extend (b : Nat) (S : Sto) (o v : Val) : R Val := match o with
  | .ref n => (match S[n]?, asList S v with
    | some (.lst xs), some ys => if xs.length + ys.length ≤ lim && (decide (b ≤ n) || Val.lowL 0 ys) then .ok (.ref n) (S.set n (.lst (xs ++ ys))) else .bad
    | _, _ => .bad)
  | _ => .bad
def setIx (b : Nat) (S : Sto) (o i v : Val) : R Unit := match o with
  | .ref n => (match S[n]? with
    | some (.lst xs) => (match i with
      | .int k => (match ixN xs.length k with
        | some j => if mayPut b n v.settle then .ok () (S.set n (.lst (xs.set j v.settle))) else .bad
        | none => .bad)
      | _ => .bad)
    | some (.dic t kvs) => if i.isKey t && kvs.length < lim && mayPut b n v.settle then .ok () (S.set n (.dic t (dPut i v.settle kvs))) else .bad
    | _ => .bad)
  | _ => .bad
/-- a fresh list gets a cell -/
def newCell (S : Sto) (v : Val) : R Val := match v with
  | .lst true xs => .ok (.ref S.length) (S ++ [.lst xs])
  | .dic true t kvs => .ok (.ref S.length) (S ++ [.dic t kvs])
  | _ => .bad
/-- what a def hands back: its own cells become plain values -/
def freeze1 (b : Nat) (S : Sto) (v : Val) : Option Val := match v with
  | .ref n => if n < b then some v else (match S[n]? with
    | some (.lst xs) => if Val.lowL b xs then some (.lst true xs) else none
    | some (.dic t kvs) => if Val.lowD b kvs then some (.dic true t kvs) else none
    | _ => none)
  | v => if v.low b then some v else none
def freezeL (b : Nat) (S : Sto) : List Val → Option (List Val)
  | [] => some []
  | x :: xs => (match freeze1 b S x, freezeL b S xs with
    | some y, some ys => some (y.settle :: ys)
    | _, _ => none)
def freeze (b : Nat) (S : Sto) (v : Val) : Option Val := match v with
  | .tup xs => (match freezeL b S xs with
    | some ys => some (.tup ys)
    | none => none)
  | v => freeze1 b S v

/-! ### the text -/
inductive T where
  | name (i : Nat)
  | tup (ts : List T)
mutual
def bindT : T → Val → Env → Option Env
  | .name i, v, env => some (env.set i (some v.settle))
  | .tup ts, .tup xs, env => bindTs ts xs env
  | _, _, _ => none
def bindTs : List T → List Val → Env → Option Env
  | [], [], env => some env
  | t :: ts, x :: xs, env => (match bindT t x env with
    | some env' => bindTs ts xs env'
    | none => none)
  | _, _, _ => none
end

mutual
inductive E where
  | var (i : Nat)
  | lit (v : Val)
  | con (i : Nat)
  | bin (op : BOp) (a b : E)
  | neg (a : E)
  | cmp (op : COp) (a b : E)
  | chain (o1 o2 : COp) (a b c : E)
  | and (es : List E)
  | or (es : List E)
  | not (a : E)
  | ite (c a b : E)
  | tup (es : List E)
  | list (es : List E)
  | dnew (t : Bool)
  | idx (a i : E)
  | slice (a : E) (lo hi : Option E)
  | call (f : Nat) (es : List E)
  | bi (b : Bi) (es : List E)
  | isi (t : Ty) (a : E)
  | meth (m : Me) (o : E) (a : E)
  | append (o : E) (a : E)
  | comp (own : List Nat) (tg : T) (src : Src) (ifs : List E) (elt : E)
  | dcomp (own : List Nat) (tg : T) (src : Src) (t : Bool) (k v : E)
  | cell (e : E)
  /-- a dict of one pair -/
  | d1 (t : Bool) (k v : E)
  /-- d.get(k, v) -/
  | get (d k v : E)
  /-- tuple(range(a, b)) -/
  | trng (a b : E)
  /-- a def as a value -/
  | fn (f : Nat)
  /-- a call of what a name holds -/
  | callV (i : Nat) (es : List E)
  /-- g(lambda: body): j the table's cell, p where it lies, q the lambda's name -/
  | guard (g j p : Nat) (q : List Nat) (body : E)
  /-- isinstance(a, an own class of exceptions) -/
  | isx (a : E) (k : Nat)
inductive Src where
  | it (e : E)
  | rng1 (a : E)
  | rng2 (a b : E)
  | enum (e : E)
  | zip (a b : E)
  /-- two lists, within an except suite -/
  | zipL (a b : E)
end
inductive Stm where
  | asg (tg : T) (e : E)
  | par (is : List Nat) (es : List E)
  | setIx (o i e : E)
  | aug (i : Nat) (op : BOp) (e : E)
  | ext (i : Nat) (e : E)
  | expr (e : E)
  | ret (e : E)
  | retN
  | if_ (c : E) (a b : List Stm)
  | for_ (tg : T) (src : Src) (body : List Stm)
  | while_ (c : E) (body : List Stm)
  | brk | cont | pass
  | raise_ (c : Nat)
  /-- a call that may raise -/
  | xcall (e : E)
  /-- what no run comes to -/
  | opq

structure Ctx where
  call : Nat → List Val → Sto → R Val
  con : Nat → Option Val
  base : Nat
  fuel : Nat
  /-- where the defs lie -/
  adr : Nat → Option Nat
  /-- where the classes of exceptions lie -/
  cls : Nat → Option Nat
  /-- is one class of exceptions below another -/
  sub : Nat → Nat → Option Bool
  /-- what a def that catches hands back: where nothing is raised, where class k is -/
  gok : Nat → Option Val
  gx : Nat → Nat → Option Val
  /-- the exception that is handled: its class, where it lies -/
  exn : Option (Nat × Nat) := none

def wipe (env : Env) : List Nat → Env
  | [] => env
  | i :: r => (wipe env r).set i none
def compLoop (tg : T) (test : Env → Sto → R Bool) (elt : Env → Sto → R Val) (env : Env) : List Val → Sto → R (List Val)
  | [], S => .ok [] S
  | x :: xs, S => (match bindT tg x env with
    | none => .bad
    | some env' => (test env' S).bind fun b S1 =>
      if b then (elt env' S1).bind fun v S2 => (compLoop tg test elt env xs S2).bind fun vs S3 => .ok (v.settle :: vs) S3
      else compLoop tg test elt env xs S1)
def dcompLoop (tg : T) (t : Bool) (kf vf : Env → Sto → R Val) (env : Env) : List Val → List (Val × Val) → Sto → R (List (Val × Val))
  | [], acc, S => .ok acc S
  | x :: xs, acc, S => (match bindT tg x env with
    | none => .bad
    | some env' => (kf env' S).bind fun k S1 => (vf env' S1).bind fun v S2 =>
      if k.isKey t then dcompLoop tg t kf vf env xs (dPut k v.settle acc) S2 else .bad)
def enumFrom : Nat → List Val → List Val
  | _, [] => []
  | n, x :: xs => .tup [.int n, x] :: enumFrom (n + 1) xs
def zipV : List Val → List Val → List Val
  | x :: xs, y :: ys => .tup [x, y] :: zipV xs ys
  | _, _ => []
def rangeV (a : Int) : Nat → List Val
  | 0 => []
  | n + 1 => .int a :: rangeV (a + 1) n
def rangeOf (S : Sto) (a b : Int) : R (List Val) := if -(2 ^ 62) ≤ a ∧ a < 2 ^ 62 ∧ -(2 ^ 62) ≤ b ∧ b < 2 ^ 62 then .ok (rangeV a (b - a).toNat) S else .bad
def walkOf (v : Val) : Option (List Val) := match v with
  | .tup xs => some xs
  | .lst _ xs => some xs
  | .str s => some (s.map fun c => .str [c])
  | _ => none
def seqOf (v : Val) : Option (List Val) := match v with
  | .tup xs => some xs
  | .lst _ xs => some xs
  | _ => none
/-- both lists, or both tuples -/
def twoOf (v w : Val) : Option (List Val × List Val) := match v, w with
  | .tup xs, .tup ys => some (xs, ys)
  | .lst _ xs, .lst _ ys => some (xs, ys)
  | _, _ => none
def asBl (v : Val) (S : Sto) : R Bool := match v with
  | .bl b => .ok b S
  | _ => .bad
def asInt (v : Val) (S : Sto) : R Int := match v with
  | .int i => .ok i S
  | _ => .bad

/-- d.get(k, z) -/
def getV (S : Sto) (x k z : Val) : Option Val := match asDic S x with
  | some (t, kvs) => if k.isKey t then some ((dGet k kvs).getD z) else none
  | none => none
def listsOf (v w : Val) : Option (List Val × List Val) := match v, w with
  | .lst _ xs, .lst _ ys => some (xs, ys)
  | _, _ => none
def subOf (c : Ctx) (k : Nat) (S : Sto) : Val → R Val
  | .exn k' a => if c.exn = some (k', a) then (R.of (c.sub k' k) S).bind fun b S2 => .ok (.bl b) S2 else .bad
  | _ => .bad
def guardR (c : Ctx) (g : Nat) : R Val → R Val
  | .ok _ S => R.of (c.gok g) S
  | .exc k _ S => R.of (c.gx g k) S
  | .bad => .bad
/-- the def that a name holds -/
def fnAt (c : Ctx) (env : Env) (i : Nat) : Option Nat := match env[i]? with
  | some (some (.fn f a)) => if c.adr f = some a then some f else none
  | _ => none
def tblAt (S : Sto) (j p : Nat) (q : List Nat) : Bool := match S[j]? with
  | some (.tbl p' q') => decide (p' = p) && decide (q' = q)
  | _ => false
mutual
def evalE (c : Ctx) : E → Env → Sto → R Val
  | .var i, env, S => (match env[i]? with
    | some (some v) => .ok v S
    | _ => .bad)
  | .lit v, _, S => .ok v S
  | .con i, _, S => R.of (c.con i) S
  | .bin op a b, env, S => (evalE c a env S).bind fun x S1 => (evalE c b env S1).bind fun y S2 => R.of (QE.bin S2 op x y) S2
  | .neg a, env, S => (evalE c a env S).bind fun x S1 => (asInt x S1).bind fun i S2 => .ok (.int (-i)) S2
  | .cmp op a b, env, S => (evalE c a env S).bind fun x S1 => (evalE c b env S1).bind fun y S2 => (R.of (QE.cmp S2 op x y) S2).bind fun r S3 => .ok (.bl r) S3
  | .chain o1 o2 a b d, env, S => (evalE c a env S).bind fun x S1 => (evalE c b env S1).bind fun y S2 => (R.of (QE.cmp S2 o1 x y) S2).bind fun r S3 =>
      if r then (evalE c d env S3).bind fun z S4 => (R.of (QE.cmp S4 o2 y z) S4).bind fun r S5 => .ok (.bl r) S5 else .ok (.bl false) S3
  | .and es, env, S => (evalAnd c es env S).bind fun b S1 => .ok (.bl b) S1
  | .or es, env, S => (evalOr c es env S).bind fun b S1 => .ok (.bl b) S1
  | .not a, env, S => (evalE c a env S).bind fun x S1 => (asBl x S1).bind fun b S2 => .ok (.bl (!b)) S2
  | .ite t a b, env, S => (evalE c t env S).bind fun x S1 => (asBl x S1).bind fun r S2 => if r then evalE c a env S2 else evalE c b env S2
  | .tup es, env, S => (evalEs c es env S).bind fun xs S1 => if xs.length ≤ lim then .ok (.tup xs) S1 else .bad
  | .list es, env, S => (evalEs c es env S).bind fun xs S1 => if xs.length ≤ lim then .ok (.lst true xs) S1 else .bad
  | .dnew t, _, S => .ok (.dic true t []) S
  | .idx a i, env, S => (evalE c a env S).bind fun x S1 => (evalE c i env S1).bind fun y S2 => R.of (item S2 x y) S2
  | .slice a lo hi, env, S => (evalE c a env S).bind fun x S1 => (evalO c lo env S1).bind fun l S2 => (evalO c hi env S2).bind fun h S3 => R.of (QE.slice S3 x l h) S3
  | .call f es, env, S => (evalEs c es env S).bind fun xs S1 => c.call f xs S1
  | .bi b es, env, S => (evalEs c es env S).bind fun xs S1 => R.of (callBi S1 b xs) S1
  | .isi t a, env, S => (evalE c a env S).bind fun x S1 => (R.of (isTy S1 t x) S1).bind fun r S2 => .ok (.bl r) S2
  | .meth m o a, env, S => (evalE c o env S).bind fun x S1 => (R.of (asList S1 x) S1).bind fun _ S1 => (evalE c a env S1).bind fun v S2 => R.of (callMe S2 m x [v.settle]) S2
  | .append o a, env, S => (evalE c o env S).bind fun x S1 => (R.of (asList S1 x) S1).bind fun _ S1 => (evalE c a env S1).bind fun v S2 => QE.append c.base S2 x v.settle
  | .comp own tg src ifs elt, env, S => (evalSrc c src env S).bind fun xs S1 =>
      (compLoop tg (evalAnd c ifs) (evalE c elt) (wipe env own) xs S1).calm.bind fun ys S2 => if ys.length ≤ lim then .ok (.lst true ys) S2 else .bad
  | .dcomp own tg src t k v, env, S => (evalSrc c src env S).bind fun xs S1 =>
      (dcompLoop tg t (evalE c k) (evalE c v) (wipe env own) xs [] S1).calm.bind fun ys S2 => if xs.length ≤ lim then .ok (.dic true t ys) S2 else .bad
  | .cell e, env, S => (evalE c e env S).bind fun v S1 => newCell S1 v
  | .d1 t k v, env, S => (evalE c k env S).bind fun x S1 => (evalE c v env S1).bind fun y S2 => if x.isKey t then .ok (.dic true t [(x, y.settle)]) S2 else .bad
  | .get d k v, env, S => (evalE c d env S).bind fun x S1 => (R.of (asDic S1 x) S1).bind fun _ S1 => (evalE c k env S1).bind fun y S2 => (evalE c v env S2).bind fun z S3 => R.of (getV S3 x y z.settle) S3
  | .trng a b, env, S => (evalE c a env S).bind fun v S1 => (asInt v S1).bind fun i S2 => (evalE c b env S2).bind fun w S3 => (asInt w S3).bind fun j S4 => (rangeOf S4 i j).bind fun xs S5 => if xs.length ≤ lim then .ok (.tup xs) S5 else .bad
  | .fn f, _, S => (R.of (c.adr f) S).bind fun a S1 => .ok (.fn f a) S1
  | .callV i es, env, S => (R.of (fnAt c env i) S).bind fun f S0 => (evalEs c es env S0).bind fun xs S1 => c.call f xs S1
  | .guard g j p q body, env, S => if tblAt S j p q then guardR c g (evalX c body env S) else .bad
  | .isx a k, env, S => (evalE c a env S).bind fun x S1 => subOf c k S1 x
/-- a call that may raise -/
def evalX (c : Ctx) : E → Env → Sto → R Val
  | .call f es, env, S => (evalEs c es env S).calm.bind fun xs S1 => c.call f xs S1
  | .callV i es, env, S => (R.of (fnAt c env i) S).bind fun f S0 => (evalEs c es env S0).calm.bind fun xs S1 => c.call f xs S1
  | _, _, _ => .bad
/-- the items settled -/
def evalEs (c : Ctx) : List E → Env → Sto → R (List Val)
  | [], _, S => .ok [] S
  | e :: es, env, S => (evalE c e env S).bind fun x S1 => (evalEs c es env S1).bind fun xs S2 => .ok (x.settle :: xs) S2
def evalO (c : Ctx) : Option E → Env → Sto → R (Option Int)
  | none, _, S => .ok none S
  | some e, env, S => (evalE c e env S).bind fun x S1 => (asInt x S1).bind fun i S2 => .ok (some i) S2
def evalAnd (c : Ctx) : List E → Env → Sto → R Bool
  | [], _, S => .ok true S
  | e :: es, env, S => (evalE c e env S).bind fun x S1 => (asBl x S1).bind fun b S2 => if b then evalAnd c es env S2 else .ok false S2
def evalOr (c : Ctx) : List E → Env → Sto → R Bool
  | [], _, S => .ok false S
  | e :: es, env, S => (evalE c e env S).bind fun x S1 => (asBl x S1).bind fun b S2 => if b then .ok true S2 else evalOr c es env S2
def evalSrc (c : Ctx) : Src → Env → Sto → R (List Val)
  | .it e, env, S => (evalE c e env S).bind fun v S1 => R.of (walkOf v) S1
  | .rng1 a, env, S => (evalE c a env S).bind fun v S1 => (asInt v S1).bind fun i S2 => rangeOf S2 0 i
  | .rng2 a b, env, S => (evalE c a env S).bind fun v S1 => (asInt v S1).bind fun i S2 => (evalE c b env S2).bind fun w S3 => (asInt w S3).bind fun j S4 => rangeOf S4 i j
  | .enum e, env, S => (evalE c e env S).bind fun v S1 => (R.of (seqOf v) S1).bind fun xs S2 => .ok (enumFrom 0 xs) S2
  | .zip a b, env, S => (evalE c a env S).bind fun v S1 => (evalE c b env S1).bind fun w S2 => (R.of (twoOf v w) S2).bind fun p S3 => .ok (zipV p.1 p.2) S3
  | .zipL a b, env, S => (evalE c a env S).bind fun v S1 => (evalE c b env S1).bind fun w S2 => (R.of (listsOf v w) S2).bind fun p S3 => .ok (zipV p.1 p.2) S3
end

inductive Fl where
  | nx | bk | ct
  | rt (v : Val)
def forLoop (tg : T) (body : Env → Sto → R (Fl × Env)) : List Val → Env → Sto → R (Fl × Env)
  | [], env, S => .ok (.nx, env) S
  | x :: xs, env, S => (match bindT tg x env with
    | none => .bad
    | some env' => (body env' S).bind fun f S1 => match f with
      | (.nx, e) => forLoop tg body xs e S1
      | (.ct, e) => forLoop tg body xs e S1
      | (.bk, e) => .ok (.nx, e) S1
      | (.rt v, e) => .ok (.rt v, e) S1)
def whileLoop (test : Env → Sto → R Bool) (body : Env → Sto → R (Fl × Env)) : Nat → Env → Sto → R (Fl × Env)
  | 0, _, _ => .bad
  | n + 1, env, S => (test env S).bind fun b S1 => if b then (body env S1).bind fun f S2 => match f with
      | (.nx, e) => whileLoop test body n e S2
      | (.ct, e) => whileLoop test body n e S2
      | (.bk, e) => .ok (.nx, e) S2
      | (.rt v, e) => .ok (.rt v, e) S2
    else .ok (.nx, env) S1
def setAll : List Nat → List Val → Env → Option Env
  | [], [], env => some env
  | i :: is, x :: xs, env => setAll is xs (env.set i (some x))
  | _, _, _ => none
mutual
def execS (c : Ctx) : Stm → Env → Sto → R (Fl × Env)
  | .asg tg e, env, S => (evalE c e env S).calm.bind fun v S1 => (R.of (bindT tg v env) S1).bind fun env' S2 => .ok (.nx, env') S2
  | .par is es, env, S => (evalEs c es env S).calm.bind fun xs S1 => (R.of (setAll is xs env) S1).bind fun env' S2 => .ok (.nx, env') S2
  | .setIx o i e, env, S => (evalE c e env S).calm.bind fun v S1 => (evalE c o env S1).calm.bind fun x S2 => (evalE c i env S2).calm.bind fun y S3 => (QE.setIx c.base S3 x y v).calm.bind fun _ S4 => .ok (.nx, env) S4
  | .aug i op e, env, S => (match env[i]? with
    | some (some x) => (evalE c e env S).calm.bind fun y S1 => (match x, y with
      | .int _, .int _ => (R.of (QE.bin S1 op x y) S1).bind fun z S2 => .ok (.nx, env.set i (some z.settle)) S2
      | .str _, .str _ => (R.of (QE.bin S1 op x y) S1).bind fun z S2 => .ok (.nx, env.set i (some z.settle)) S2
      | _, _ => .bad)
    | _ => .bad)
  | .ext i e, env, S => (match env[i]? with
    | some (some x) => (evalE c e env S).calm.bind fun y S1 => (QE.extend c.base S1 x y).calm.bind fun _ S2 => .ok (.nx, env) S2
    | _ => .bad)
  | .expr e, env, S => (evalE c e env S).calm.bind fun _ S1 => .ok (.nx, env) S1
  | .ret e, env, S => (evalE c e env S).calm.bind fun v S1 => .ok (.rt v, env) S1
  | .retN, env, S => .ok (.rt .non, env) S
  | .if_ t a b, env, S => (evalE c t env S).calm.bind fun x S1 => (asBl x S1).bind fun r S2 => if r then execSs c a env S2 else execSs c b env S2
  | .for_ tg src body, env, S => (evalSrc c src env S).calm.bind fun xs S1 => forLoop tg (execSs c body) xs env S1
  | .while_ t body, env, S => whileLoop (fun e S => ((evalE c t e S).bind asBl).calm) (execSs c body) c.fuel env S
  | .brk, env, S => .ok (.bk, env) S
  | .cont, env, S => .ok (.ct, env) S
  | .pass, env, S => .ok (.nx, env) S
  | .raise_ k, env, S => .exc k [] S
  | .xcall e, env, S => (evalX c e env S).bind fun _ S1 => .ok (.nx, env) S1
  | .opq, _, _ => .bad
def execSs (c : Ctx) : List Stm → Env → Sto → R (Fl × Env)
  | [], env, S => .ok (.nx, env) S
  | s :: ss, env, S => (execS c s env S).bind fun f S1 => match f with
    | (.nx, e) => execSs c ss e S1
    | (f, e) => .ok (f, e) S1
end

structure Def where
  arity : Nat
  size : Nat
  body : List Stm
structure Prog where
  fns : List Def
  con : List Val
  fuel : Nat
  adr : List Nat := []
  cls : List Nat := []
  sub : List (List Bool) := []
  /-- the defs that catch: what they hand back -/
  grd : List (Nat × Val × List (Option Val)) := []
def ctxOf (P : Prog) (call : Nat → List Val → Sto → R Val) (base : Nat) : Ctx where
  call := call
  con := fun i => P.con[i]?
  base := base
  fuel := P.fuel
  adr := fun f => P.adr[f]?
  cls := fun k => P.cls[k]?
  sub := fun a b => (P.sub[a]?).bind fun r => r[b]?
  gok := fun g => (P.grd.lookup g).map fun t => t.1
  gx := fun g k => (P.grd.lookup g).bind fun t => (t.2[k]?).bind id
def finish (b : Nat) (r : R (Fl × Env)) : R Val := match r with
  | .ok (.rt v, _) S => if S.length ≤ b then .ok v S else R.of (freeze b S v) (S.take b)
  | .ok (.nx, _) S => .ok .non (S.take b)
  | .ok _ _ => .bad
  | .exc c p S => .exc c p (S.take b)
  | .bad => .bad
def callFn (P : Prog) : Nat → Nat → List Val → Sto → R Val
  | 0, _, _, _ => .bad
  | k + 1, f, vs, S => (match P.fns[f]? with
    | none => .bad
    | some d => if vs.length = d.arity then
        finish S.length (execSs (ctxOf P (callFn P k) S.length) d.body (vs.map some ++ List.replicate (d.size - d.arity) none) S)
      else .bad)
end QE

set_option Elab.async false
set_option linter.all false
set_option maxRecDepth 10000
set_option maxHeartbeats 1000000
/-! What the evaluator's values and stores stand for. -/
namespace QE
open PySem PySem.Spec PyProof.Rows L2

def strOf (s : List Nat) : Str := ⟨s.toArray⟩
theorem strOf_list (s : List Nat) : (strOf s).cps.toList = s := by simp [strOf]
theorem strOf_len (s : List Nat) : (strOf s).length = s.length := by simp [strOf, Str.length]
theorem strOf_inj {s t : List Nat} (h : strOf s = strOf t) : s = t := by rw [← strOf_list s, h, strOf_list]
theorem strOf_tl (x : Str) : strOf x.cps.toList = x := by cases x; simp [strOf]

/-- a key of a dict, as the layer has it -/
def keyOf : Val → L2.Key
  | .int i => .inl i
  | .str s => .inr (strOf s)
  | _ => .inl 0
def keysOf : Val → List L2.Key
  | .tup xs => xs.map keyOf
  | _ => []

/-- what may be read at a; a fresh one is not frozen -/
def RdF (f : Bool) (H : Hp) (a : Addr) (u : HO) : Prop := match f with
  | true => H a = some u
  | false => Rd H a u
theorem RdF.rd {f : Bool} {H : Hp} {a : Addr} {u : HO} (h : RdF f H a u) : Rd H a u := by
  cases f with
  | true => exact .inl h
  | false => exact h
theorem RdF.of {f : Bool} {H : Hp} {a : Addr} {u : HO} (h : H a = some u) : RdF f H a u := by
  cases f with
  | true => exact h
  | false => exact .inl h
/-- a list of the written part -/
def KLs (K : PySem.W.Frag) (a : Addr) (vs : List V) : Prop := ∃ (o : Obj) (its : Array Value) (n : Nat), K.lookup a = some o ∧ o.cls = .type "list" ∧ o.dict = none ∧ o.data = .seq its n ∧ its.size ≤ sizeLine ∧ Vals vs its.toList
mutual
def Rep (K : PySem.W.Frag) (hid ρ : List Addr) (H : Hp) : Val → V → Prop
  | .non, v => v = .non
  | .bl b, v => v = .bl b
  | .int i, v => v = .int i
  | .str s, v => v = .str (strOf s)
  | .tup xs, v => ∃ a vs, v = .ref a ∧ H a = some (.tup vs) ∧ RepL K hid ρ H xs vs
  | .lst f xs, v => ∃ a vs, v = .ref a ∧ RdF f H a (.lst vs) ∧ a ∉ ρ ∧ a ∉ hid ∧ RepL K hid ρ H xs vs
  | .dic _ true kvs, v => ∃ a ws, v = .ref a ∧ H a = some (.dT ws) ∧ a ∉ ρ ∧ a ∉ hid ∧ RepT K hid ρ H kvs ws
  | .dic _ false kvs, v => ∃ a ws, v = .ref a ∧ H a = some (.dK ws) ∧ a ∉ ρ ∧ a ∉ hid ∧ RepK K hid ρ H kvs ws
  | .ref n, v => ∃ a, ρ[n]? = some a ∧ v = .ref a
  | .kls ns, v => ∃ a, v = .ref a ∧ KLs K a (ns.map V.int)
  | .fn _ a, v => v = .ref a
  | .exn _ a, v => v = .ref a
def RepL (K : PySem.W.Frag) (hid ρ : List Addr) (H : Hp) : List Val → List V → Prop
  | [], vs => vs = []
  | x :: xs, vs => ∃ v r, vs = v :: r ∧ (x.st = true ∧ Rep K hid ρ H x v) ∧ RepL K hid ρ H xs r
def RepK (K : PySem.W.Frag) (hid ρ : List Addr) (H : Hp) : List (Val × Val) → List (L2.Key × V) → Prop
  | [], ws => ws = []
  | (k, x) :: xs, ws => ∃ v r, ws = (keyOf k, v) :: r ∧ k.flatKey = true ∧ (x.st = true ∧ Rep K hid ρ H x v) ∧ RepK K hid ρ H xs r
def RepT (K : PySem.W.Frag) (hid ρ : List Addr) (H : Hp) : List (Val × Val) → List (List L2.Key × V) → Prop
  | [], ws => ws = []
  | (k, x) :: xs, ws => ∃ v r, ws = (keysOf k, v) :: r ∧ k.isKey true = true ∧ (x.st = true ∧ Rep K hid ρ H x v) ∧ RepT K hid ρ H xs r
end

def ObRep (K : PySem.W.Frag) (hid ρ : List Addr) (H : Hp) (a : Addr) : Ob → Prop
  | .lst xs => ∃ vs, H a = some (.lst vs) ∧ RepL K hid ρ H xs vs
  | .dic true kvs => ∃ ws, H a = some (.dT ws) ∧ RepT K hid ρ H kvs ws
  | .dic false kvs => ∃ ws, H a = some (.dK ws) ∧ RepK K hid ρ H kvs ws
  | .tbl p q => a = p ∧ ∃ ps : Array Value, H p = some (.tbl ps) ∧ TriplesOk ps.toList ∧ ∀ (pos : Pos) (cv : Value), codeAmong pos ps.toList = some cv → ∃ c, cv = .ref c ∧ c ∉ ρ ∧ H c = some (LamX.CodeO c (strOf q))

/-- no table of code objects -/
def NT (o : HO) : Prop := ∀ ps, o ≠ .tbl ps
/-- nothing there but, it may be, a table -/
def Gone (H : Hp) (a : Addr) : Prop := ∀ o, H a = some o → ∃ ps, o = .tbl ps
theorem Gone.of {H : Hp} {a : Addr} (h : H a = none) : Gone H a := fun o e => by rw [h] at e; cases e
structure SOk (K : PySem.W.Frag) (hid ρ : List Addr) (H : Hp) (S : Sto) : Prop where
  len : ρ.length = S.length
  nd : ρ.Nodup
  apart : ∀ a ∈ ρ, a ∉ hid
  hidd : ∀ a ∈ hid, ∃ o, H a = some o ∧ NT o
  ob : ∀ (n : Nat) (o : Ob), S[n]? = some o → ∃ a, ρ[n]? = some a ∧ ObRep K hid ρ H a o

/-- what may have become of the heap -/
structure Ext (ρ : List Addr) (H : Hp) (ρ' : List Addr) (H' : Hp) : Prop where
  more : ∃ new, ρ' = ρ ++ new ∧ ∀ b ∈ new, Gone H b
  keep0 : ∀ b o, H b = some o → b ∉ ρ → NT o → H' b = some o
  there0 : ∀ b o, H b = some o → NT o → ∃ o', H' b = some o' ∧ NT o'
  tups : ∀ b xs, H b = some (.tup xs) → H' b = some (.tup xs)
  frzs : ∀ b o u, H b = some (.frz o u) → H' b = some (.frz o u)
theorem Ext.keep {ρ ρ' : List Addr} {H H' : Hp} (e : Ext ρ H ρ' H') (b : Addr) (o : HO) (h : H b = some o) (hb : b ∉ ρ) (n : NT o := by intro _ z; cases z) : H' b = some o := e.keep0 b o h hb n
theorem Ext.refl (ρ : List Addr) (H : Hp) : Ext ρ H ρ H :=
  ⟨⟨[], by simp, by simp⟩, fun _ _ h _ _ => h, fun _ o h n => ⟨o, h, n⟩, fun _ _ h => h, fun _ _ _ h => h⟩
theorem Ext.free {ρ ρ' : List Addr} {H H' : Hp} (e : Ext ρ H ρ' H') {a : Addr} (h : Gone H' a) : Gone H a := fun o q => by
  apply Classical.byContradiction
  intro n
  obtain ⟨o', r, n'⟩ := e.there0 a o q fun ps z => n ⟨ps, z⟩
  obtain ⟨ps, z⟩ := h o' r
  exact n' ps z
theorem Gone.nt {H : Hp} {a : Addr} (h : Gone H a) {o : HO} (e : H a = some o) (n : NT o) : False := by
  obtain ⟨ps, z⟩ := h o e
  exact n ps z
theorem Ext.trans {ρ ρ1 ρ2 : List Addr} {H H1 H2 : Hp} (e : Ext ρ H ρ1 H1) (f : Ext ρ1 H1 ρ2 H2) : Ext ρ H ρ2 H2 := by
  obtain ⟨n1, q1, k1⟩ := e.more
  obtain ⟨n2, q2, k2⟩ := f.more
  refine ⟨⟨n1 ++ n2, by rw [q2, q1, List.append_assoc], fun b hb => ?_⟩, fun b o h hb n => ?_, fun b o h n => ?_, fun b xs h => f.tups b xs (e.tups b xs h), fun b o u h => f.frzs b o u (e.frzs b o u h)⟩
  · rcases List.mem_append.mp hb with hb | hb
    · exact k1 b hb
    · exact e.free (k2 b hb)
  · have h1 := e.keep0 b o h hb n
    refine f.keep0 b o h1 (fun z => ?_) n
    rw [q1] at z
    rcases List.mem_append.mp z with z | z
    · exact hb z
    · exact (k1 b z).nt h n
  · obtain ⟨o1, h1, n1⟩ := e.there0 b o h n
    exact f.there0 b o1 h1 n1
/-- a new object -/
theorem Ext.new {ρ : List Addr} {H : Hp} {p : Addr} {o : HO} (h : H p = none) : Ext ρ H ρ (upd H p o) := by
  have ne : ∀ b u, H b = some u → b ≠ p := fun b u e => ne_of_none e h
  exact ⟨⟨[], by simp, by simp⟩, fun b u e _ _ => by rw [upd_ne (ne b u e)]; exact e, fun b u e n => ⟨u, by rw [upd_ne (ne b u e)]; exact e, n⟩,
    fun b xs e => by rw [upd_ne (ne b _ e)]; exact e, fun b u w e => by rw [upd_ne (ne b _ e)]; exact e⟩
theorem Ext.at_ {ρ ρ' : List Addr} {H H' : Hp} (e : Ext ρ H ρ' H') {n : Nat} {a : Addr} (h : ρ[n]? = some a) : ρ'[n]? = some a := by
  obtain ⟨new, q, _⟩ := e.more
  rw [q, List.getElem?_append_left (List.getElem?_eq_some_iff.mp h).1]
  exact h
theorem Ext.notin {ρ ρ' : List Addr} {H H' : Hp} (e : Ext ρ H ρ' H') {a : Addr} (h : a ∉ ρ) (o : ∃ u, H a = some u ∧ NT u) : a ∉ ρ' := by
  obtain ⟨new, q, k⟩ := e.more
  rw [q]
  intro z
  rcases List.mem_append.mp z with z | z
  · exact h z
  · obtain ⟨u, hu, n⟩ := o
    exact (k a z).nt hu n
theorem rd_there {H : Hp} {a : Addr} {u : HO} (n : NT u) (r : Rd H a u) : ∃ w, H a = some w ∧ NT w := by
  rcases r with r | ⟨o, r⟩
  · exact ⟨_, r, n⟩
  · exact ⟨_, r, fun _ z => by cases z⟩
theorem Ext.rd {ρ ρ' : List Addr} {H H' : Hp} (e : Ext ρ H ρ' H') {a : Addr} {u : HO} (h : a ∉ ρ) (r : Rd H a u) (n : NT u := by intro _ z; cases z) : Rd H' a u := by
  rcases r with r | ⟨o, r⟩
  · exact .inl (e.keep0 _ _ r h n)
  · exact .inr ⟨o, e.keep _ _ r h⟩
theorem Ext.sqT {K : PySem.W.Frag} {ρ ρ' : List Addr} {H H' : Hp} (e : Ext ρ H ρ' H') {a : Addr} {xs : List V} (r : SqT K H a xs) : SqT K H' a xs := by
  rcases r with (r | ⟨o, r⟩) | r
  · exact .inl (.inl (e.tups _ _ r))
  · exact .inl (.inr ⟨o, e.frzs _ _ _ r⟩)
  · exact .inr r

theorem Ext.rdF {ρ ρ' : List Addr} {H H' : Hp} (e : Ext ρ H ρ' H') {f : Bool} {a : Addr} {u : HO} (h : a ∉ ρ) (r : RdF f H a u) (n : NT u := by intro _ z; cases z) : RdF f H' a u := by
  cases f with
  | true => exact e.keep0 _ _ r h n
  | false => exact e.rd h r n
theorem ntL {vs : List V} : NT (.lst vs) := fun _ z => by cases z
section
variable {K : PySem.W.Frag} {hid ρ ρ' : List Addr} {H H' : Hp}
mutual
theorem Rep.mono (e : Ext ρ H ρ' H') : ∀ (x : Val) (v : V), Rep K hid ρ H x v → Rep K hid ρ' H' x v
  | .non, v, h => by simp only [Rep] at h ⊢; exact h
  | .bl b, v, h => by simp only [Rep] at h ⊢; exact h
  | .int i, v, h => by simp only [Rep] at h ⊢; exact h
  | .str s, v, h => by simp only [Rep] at h ⊢; exact h
  | .tup xs, v, h => by
    simp only [Rep] at h ⊢
    obtain ⟨a, vs, h1, h2, h3⟩ := h
    exact ⟨a, vs, h1, e.tups _ _ h2, RepL.mono e xs vs h3⟩
  | .lst f xs, v, h => by
    simp only [Rep] at h ⊢
    obtain ⟨a, vs, h1, h2, h3, h4, h5⟩ := h
    exact ⟨a, vs, h1, e.rdF h3 h2, e.notin h3 (rd_there ntL h2.rd), h4, RepL.mono e xs vs h5⟩
  | .dic f true kvs, v, h => by
    simp only [Rep] at h ⊢
    obtain ⟨a, vs, h1, h2, h3, h4, h5⟩ := h
    exact ⟨a, vs, h1, e.keep _ _ h2 h3, e.notin h3 ⟨_, h2, fun _ z => by cases z⟩, h4, RepT.mono e kvs vs h5⟩
  | .dic f false kvs, v, h => by
    simp only [Rep] at h ⊢
    obtain ⟨a, vs, h1, h2, h3, h4, h5⟩ := h
    exact ⟨a, vs, h1, e.keep _ _ h2 h3, e.notin h3 ⟨_, h2, fun _ z => by cases z⟩, h4, RepK.mono e kvs vs h5⟩
  | .ref n, v, h => by
    simp only [Rep] at h ⊢
    obtain ⟨a, h1, h2⟩ := h
    exact ⟨a, e.at_ h1, h2⟩
  | .kls ns, v, h => by simp only [Rep] at h ⊢; exact h
  | .fn _ _, v, h => by simp only [Rep] at h ⊢; exact h
  | .exn _ _, v, h => by simp only [Rep] at h ⊢; exact h
theorem RepL.mono (e : Ext ρ H ρ' H') : ∀ (xs : List Val) (vs : List V), RepL K hid ρ H xs vs → RepL K hid ρ' H' xs vs
  | [], vs, h => by simp only [RepL] at h ⊢; exact h
  | x :: xs, vs, h => by
    simp only [RepL] at h ⊢
    obtain ⟨v, r, h1, h2, h3⟩ := h
    exact ⟨v, r, h1, ⟨h2.1, Rep.mono e x v h2.2⟩, RepL.mono e xs r h3⟩
theorem RepK.mono (e : Ext ρ H ρ' H') : ∀ (xs : List (Val × Val)) (ws : List (L2.Key × V)), RepK K hid ρ H xs ws → RepK K hid ρ' H' xs ws
  | [], vs, h => by simp only [RepK] at h ⊢; exact h
  | (k, x) :: xs, vs, h => by
    simp only [RepK] at h ⊢
    obtain ⟨v, r, h1, h4, h2, h3⟩ := h
    exact ⟨v, r, h1, h4, ⟨h2.1, Rep.mono e x v h2.2⟩, RepK.mono e xs r h3⟩
theorem RepT.mono (e : Ext ρ H ρ' H') : ∀ (xs : List (Val × Val)) (ws : List (List L2.Key × V)), RepT K hid ρ H xs ws → RepT K hid ρ' H' xs ws
  | [], vs, h => by simp only [RepT] at h ⊢; exact h
  | (k, x) :: xs, vs, h => by
    simp only [RepT] at h ⊢
    obtain ⟨v, r, h1, h4, h2, h3⟩ := h
    exact ⟨v, r, h1, h4, ⟨h2.1, Rep.mono e x v h2.2⟩, RepT.mono e xs r h3⟩
end
theorem Rep.settle {x : Val} {v : V} (h : Rep K hid ρ H x v) : Rep K hid ρ H x.settle v := by
  cases x with
  | lst f xs =>
    simp only [Val.settle, Rep] at h ⊢
    obtain ⟨a, vs, h1, h2, h3⟩ := h
    exact ⟨a, vs, h1, h2.rd, h3⟩
  | dic f t kvs => cases t <;> (simp only [Val.settle, Rep] at h ⊢; exact h)
  | _ => exact h
theorem RepL.length : ∀ {xs : List Val} {vs : List V}, RepL K hid ρ H xs vs → vs.length = xs.length
  | [], vs, h => by simp only [RepL] at h; rw [h]; rfl
  | x :: xs, vs, h => by
    simp only [RepL] at h
    obtain ⟨v, r, h1, h2, h3⟩ := h
    rw [h1, List.length_cons, List.length_cons, RepL.length h3]
theorem RepL.nil : RepL K hid ρ H [] [] := by simp only [RepL]
theorem RepL.cons {x : Val} {v : V} {xs : List Val} {vs : List V} (h : x.st = true ∧ Rep K hid ρ H x v) (r : RepL K hid ρ H xs vs) : RepL K hid ρ H (x :: xs) (v :: vs) := by
  simp only [RepL]; exact ⟨v, vs, rfl, h, r⟩
theorem RepL.app : ∀ {xs ys : List Val} {vs ws : List V}, RepL K hid ρ H xs vs → RepL K hid ρ H ys ws → RepL K hid ρ H (xs ++ ys) (vs ++ ws)
  | [], _, vs, _, h, r => by simp only [RepL] at h; subst h; exact r
  | x :: xs, _, vs, _, h, r => by
    simp only [RepL] at h
    obtain ⟨v, w, h1, h2, h3⟩ := h
    subst h1
    exact RepL.cons h2 (RepL.app h3 r)
theorem RepL.get : ∀ {xs : List Val} {vs : List V} {i : Nat} {x : Val}, RepL K hid ρ H xs vs → xs[i]? = some x → ∃ v, vs[i]? = some v ∧ x.st = true ∧ Rep K hid ρ H x v
  | [], _, _, _, _, e => by simp at e
  | y :: xs, vs, 0, x, h, e => by
    simp only [RepL] at h
    obtain ⟨v, w, h1, h2, h3⟩ := h
    subst h1
    simp at e
    subst e
    exact ⟨v, rfl, h2⟩
  | y :: xs, vs, i + 1, x, h, e => by
    simp only [RepL] at h
    obtain ⟨v, w, h1, h2, h3⟩ := h
    subst h1
    simpa using RepL.get (i := i) h3 (by simpa using e)
theorem RepL.set {x : Val} {v : V} (q : x.st = true ∧ Rep K hid ρ H x v) : ∀ {xs : List Val} {vs : List V} (i : Nat), RepL K hid ρ H xs vs → RepL K hid ρ H (xs.set i x) (vs.set i v)
  | [], vs, i, h => by simp only [RepL] at h; subst h; simp [RepL]
  | y :: xs, vs, 0, h => by
    simp only [RepL] at h
    obtain ⟨w, r, h1, h2, h3⟩ := h
    subst h1
    exact RepL.cons q h3
  | y :: xs, vs, i + 1, h => by
    simp only [RepL] at h
    obtain ⟨w, r, h1, h2, h3⟩ := h
    subst h1
    exact RepL.cons h2 (RepL.set q i h3)
theorem RepL.take : ∀ {xs : List Val} {vs : List V} (n : Nat), RepL K hid ρ H xs vs → RepL K hid ρ H (xs.take n) (vs.take n)
  | _, _, 0, _ => by simp [RepL]
  | [], vs, n + 1, h => by simp only [RepL] at h; subst h; simp [RepL]
  | y :: xs, vs, n + 1, h => by
    simp only [RepL] at h
    obtain ⟨w, r, h1, h2, h3⟩ := h
    subst h1
    exact RepL.cons h2 (RepL.take n h3)
theorem RepL.drop : ∀ {xs : List Val} {vs : List V} (n : Nat), RepL K hid ρ H xs vs → RepL K hid ρ H (xs.drop n) (vs.drop n)
  | _, _, 0, h => h
  | [], vs, n + 1, h => by simp only [RepL] at h; subst h; simp [RepL]
  | y :: xs, vs, n + 1, h => by
    simp only [RepL] at h
    obtain ⟨w, r, h1, h2, h3⟩ := h
    subst h1
    exact RepL.drop n h3
end

/-! ### fresh values -/
/-- nobody knows it yet: it may become a cell -/
def Fresh (K : PySem.W.Frag) (hid ρ' : List Addr) (H' : Hp) (S' : Sto) (H : Hp) (x : Val) (v : V) : Prop := match x with
  | .lst true xs => ∃ a, v = .ref a ∧ Gone H a ∧ SOk K hid (ρ' ++ [a]) H' (S' ++ [.lst xs])
  | .dic true t kvs => ∃ a, v = .ref a ∧ Gone H a ∧ SOk K hid (ρ' ++ [a]) H' (S' ++ [.dic t kvs])
  | _ => True
theorem Fresh.anti {K : PySem.W.Frag} {hid ρ2 ρ ρ' : List Addr} {H2 H H' : Hp} {S : Sto} {x : Val} {v : V} (e : Ext ρ H ρ' H') (h : Fresh K hid ρ2 H2 S H' x v) : Fresh K hid ρ2 H2 S H x v := by
  unfold Fresh at h ⊢
  split at h
  · obtain ⟨a, h1, h2, h3⟩ := h; exact ⟨a, h1, e.free h2, h3⟩
  · obtain ⟨a, h1, h2, h3⟩ := h; exact ⟨a, h1, e.free h2, h3⟩
  · trivial

theorem st_settle (x : Val) : x.settle.st = true := by cases x <;> rfl
theorem Fresh.of_st {K : PySem.W.Frag} {hid ρ2 : List Addr} {H2 H : Hp} {S : Sto} {x : Val} {v : V} (h : x.st = true) : Fresh K hid ρ2 H2 S H x v := by
  unfold Fresh
  split
  · cases h
  · cases h
  · trivial
/-! ### the evaluator's names -/
structure ERep (K : PySem.W.Frag) (hid ρ : List Addr) (H : Hp) (env : Env) (σ : L2.St) : Prop where
  len : σ.length = env.length
  at_ : ∀ (i : Nat) (x : Val), env[i]? = some (some x) → ∃ v, σ[i]? = some (some v) ∧ x.st = true ∧ Rep K hid ρ H x v
theorem ERep.mono {K : PySem.W.Frag} {hid ρ ρ' : List Addr} {H H' : Hp} {env : Env} {σ : L2.St} (h : ERep K hid ρ H env σ) (e : Ext ρ H ρ' H') : ERep K hid ρ' H' env σ :=
  ⟨h.len, fun i x q => let ⟨v, a, st, b⟩ := h.at_ i x q; ⟨v, a, st, Rep.mono e x v b⟩⟩
theorem ERep.set {K : PySem.W.Frag} {hid ρ : List Addr} {H : Hp} {env : Env} {σ : L2.St} (h : ERep K hid ρ H env σ) (i : Nat) {x : Val} {v : V} (st : x.st = true) (r : Rep K hid ρ H x v) : ERep K hid ρ H (env.set i (some x)) (σ.set i (some v)) := by
  refine ⟨by simp [h.len], fun j y q => ?_⟩
  by_cases hj : i = j
  · subst hj
    have hi : i < env.length := by
      have := (List.getElem?_eq_some_iff.mp q).1
      simpa using this
    rw [List.getElem?_set_self hi] at q
    cases q
    exact ⟨v, List.getElem?_set_self (by rw [h.len]; exact hi), st, r⟩
  · rw [List.getElem?_set_ne hj] at q ⊢
    exact h.at_ j y q
theorem ERep.wipe {K : PySem.W.Frag} {hid ρ : List Addr} {H : Hp} {env : Env} {σ : L2.St} (h : ERep K hid ρ H env σ) : ∀ is : List Nat, ERep K hid ρ H (QE.wipe env is) (L2.wipe σ is)
  | [] => h
  | i :: is => by
    have r := ERep.wipe h is
    refine ⟨by simp [QE.wipe, L2.wipe, r.len], fun j y q => ?_⟩
    unfold QE.wipe at q
    unfold L2.wipe
    by_cases hj : i = j
    · subst hj
      by_cases hi : i < (QE.wipe env is).length
      · rw [List.getElem?_set_self hi] at q; cases q
      · rw [List.getElem?_eq_none (by simpa using hi)] at q; cases q
    · rw [List.getElem?_set_ne hj] at q ⊢
      exact r.at_ j y q

/-! ### what a run comes to -/
def Out {α : Type} (K : PySem.W.Frag) (hid ρ : List Addr) (H : Hp) (r : R α) (G : α → Sto → List Addr → Hp → Prop) : Prop := match r with
  | .ok a S' => ∀ ρ' H', Ext ρ H ρ' H' → SOk K hid ρ' H' S' → G a S' ρ' H'
  | .exc _ _ _ => False
  | .bad => False
section
variable {K : PySem.W.Frag} {hid ρ ρ1 : List Addr} {H H1 : Hp} {α β : Type}
theorem Out.ext {r : R α} {G : α → Sto → List Addr → Hp → Prop} (h : Out K hid ρ H r G) (e : Ext ρ H ρ1 H1) : Out K hid ρ1 H1 r G := by
  cases r with
  | ok a S => exact fun ρ' H' e' s' => h ρ' H' (e.trans e') s'
  | exc _ _ _ => exact h.elim
  | bad => exact h.elim
theorem Out.mono {r : R α} {G G' : α → Sto → List Addr → Hp → Prop} (h : Out K hid ρ H r G) (g : ∀ a S' ρ' H', Ext ρ H ρ' H' → G a S' ρ' H' → G' a S' ρ' H') : Out K hid ρ H r G' := by
  cases r with
  | ok a S => exact fun ρ' H' e' s' => g a _ ρ' H' e' (h ρ' H' e' s')
  | exc _ _ _ => exact h.elim
  | bad => exact h.elim
/-- the first part of a run came to a value -/
theorem Out.bind {r : R α} {f : α → Sto → R β} {G : β → Sto → List Addr → Hp → Prop} (h : Out K hid ρ H (r.bind f) G) :
    ∃ a S, r = .ok a S ∧ ∀ ρ' H', Ext ρ H ρ' H' → Out K hid ρ' H' (f a S) G := by
  cases r with
  | ok a S => exact ⟨a, S, rfl, fun ρ' H' e => Out.ext h e⟩
  | exc _ _ _ => exact h.elim
  | bad => exact h.elim
theorem Out.pure {a : α} {S : Sto} {G : α → Sto → List Addr → Hp → Prop} (h : Out K hid ρ H (.ok a S) G) (s : SOk K hid ρ H S) : G a S ρ H := h ρ H (Ext.refl ρ H) s
theorem Out.of {o : Option α} {S : Sto} {G : α → Sto → List Addr → Hp → Prop} (h : Out K hid ρ H (R.of o S) G) : ∃ a, o = some a ∧ Out K hid ρ H (.ok a S) G := by
  cases o with
  | some a => exact ⟨a, rfl, h⟩
  | none => exact h.elim
end

/-- an expression's reading, by the evaluator -/
def tE (K : PySem.W.Frag) (c : Ctx) (e : E) : TE := fun σ H Q => ∃ hid ρ env S, ERep K hid ρ H env σ ∧ SOk K hid ρ H S ∧
  Out K hid ρ H (evalE c e env S) fun x S' ρ' H' => ∀ v, Rep K hid ρ' H' x v → Fresh K hid ρ' H' S' H x v → Q v H'
def tEs (K : PySem.W.Frag) (c : Ctx) (es : List E) : TA := fun σ H Q => ∃ hid ρ env S, ERep K hid ρ H env σ ∧ SOk K hid ρ H S ∧
  Out K hid ρ H (evalEs c es env S) fun xs _ ρ' H' => ∀ vs, RepL K hid ρ' H' xs vs → Q vs H'
def tT (K : PySem.W.Frag) (c : Ctx) (e : E) : TT := fun σ H Q => ∃ hid ρ env S, ERep K hid ρ H env σ ∧ SOk K hid ρ H S ∧
  Out K hid ρ H (evalE c e env S) fun x _ _ H' => ∃ b, x = .bl b ∧ Q b H'
/-- a list of tests, all of them or one of them -/
def tBs (f : List E → Env → Sto → R Bool) (K : PySem.W.Frag) (es : List E) : TT := fun σ H Q => ∃ hid ρ env S, ERep K hid ρ H env σ ∧ SOk K hid ρ H S ∧
  Out K hid ρ H (f es env S) fun b _ _ H' => Q b H'

/-- how a first part is read -/
theorem tE.of {K : PySem.W.Frag} {c : Ctx} {e : E} {hid ρ : List Addr} {H : Hp} {env : Env} {S : Sto} {σ : L2.St} {β : Type} {f : Val → Sto → R β} {G : β → Sto → List Addr → Hp → Prop} {Q : VK}
    (he : ERep K hid ρ H env σ) (hs : SOk K hid ρ H S) (h : Out K hid ρ H ((evalE c e env S).bind f) G)
    (k : ∀ x S1 ρ1 H1 v, Ext ρ H ρ1 H1 → SOk K hid ρ1 H1 S1 → Rep K hid ρ1 H1 x v → Fresh K hid ρ1 H1 S1 H x v → Out K hid ρ1 H1 (f x S1) G → Q v H1) : tE K c e σ H Q := by
  obtain ⟨x, S1, q, hk⟩ := h.bind
  refine ⟨hid, ρ, env, S, he, hs, ?_⟩
  rw [q]
  exact fun ρ1 H1 e1 s1 v r fr => k x S1 ρ1 H1 v e1 s1 r fr (hk ρ1 H1 e1)
theorem tEs.of {K : PySem.W.Frag} {c : Ctx} {es : List E} {hid ρ : List Addr} {H : Hp} {env : Env} {S : Sto} {σ : L2.St} {β : Type} {f : List Val → Sto → R β} {G : β → Sto → List Addr → Hp → Prop} {Q : List V → Hp → Prop}
    (he : ERep K hid ρ H env σ) (hs : SOk K hid ρ H S) (h : Out K hid ρ H ((evalEs c es env S).bind f) G)
    (k : ∀ xs S1 ρ1 H1 vs, Ext ρ H ρ1 H1 → SOk K hid ρ1 H1 S1 → RepL K hid ρ1 H1 xs vs → Out K hid ρ1 H1 (f xs S1) G → Q vs H1) : tEs K c es σ H Q := by
  obtain ⟨x, S1, q, hk⟩ := h.bind
  refine ⟨hid, ρ, env, S, he, hs, ?_⟩
  rw [q]
  exact fun ρ1 H1 e1 s1 v r => k x S1 ρ1 H1 v e1 s1 r (hk ρ1 H1 e1)
theorem asBl_ok {x : Val} {S : Sto} {b : Bool} {S' : Sto} (h : asBl x S = .ok b S') : x = .bl b ∧ S' = S := by
  cases x <;> simp only [asBl] at h <;> cases h
  exact ⟨rfl, rfl⟩
theorem asInt_ok {x : Val} {S : Sto} {b : Int} {S' : Sto} (h : asInt x S = .ok b S') : x = .int b ∧ S' = S := by
  cases x <;> simp only [asInt] at h <;> cases h
  exact ⟨rfl, rfl⟩
/-- how a test is read -/
theorem tT.of {K : PySem.W.Frag} {c : Ctx} {e : E} {hid ρ : List Addr} {H : Hp} {env : Env} {S : Sto} {σ : L2.St} {β : Type} {f : Bool → Sto → R β} {G : β → Sto → List Addr → Hp → Prop} {Q : Bool → Hp → Prop}
    (he : ERep K hid ρ H env σ) (hs : SOk K hid ρ H S) (h : Out K hid ρ H ((evalE c e env S).bind fun x S1 => (asBl x S1).bind f) G)
    (k : ∀ b S1 ρ1 H1, Ext ρ H ρ1 H1 → SOk K hid ρ1 H1 S1 → Out K hid ρ1 H1 (f b S1) G → Q b H1) : tT K c e σ H Q := by
  obtain ⟨x, S1, q, hk⟩ := h.bind
  refine ⟨hid, ρ, env, S, he, hs, ?_⟩
  rw [q]
  intro ρ1 H1 e1 s1
  obtain ⟨b, S2, q2, hk2⟩ := (hk ρ1 H1 e1).bind
  obtain ⟨hx, hS⟩ := asBl_ok q2
  subst hx hS
  exact ⟨b, rfl, k b _ ρ1 H1 e1 s1 (hk2 ρ1 H1 (Ext.refl _ _))⟩
/-- what a statement's run comes to: it may raise -/
def OutS {α : Type} (K : PySem.W.Frag) (hid ρ : List Addr) (H : Hp) (r : R α) (G : α → Sto → List Addr → Hp → Prop) (GX : Nat → Sto → List Addr → Hp → Prop) : Prop := match r with
  | .ok a S' => ∀ ρ' H', Ext ρ H ρ' H' → SOk K hid ρ' H' S' → G a S' ρ' H'
  | .exc k _ S' => ∀ ρ' H', Ext ρ H ρ' H' → SOk K hid ρ' H' S' → GX k S' ρ' H'
  | .bad => False
/-- an exception of class k is what W wishes for -/
def XW (c : Ctx) (W : L2.WX) : Nat → Sto → List Addr → Hp → Prop := fun k _ _ H => ∀ C, c.cls k = some C → ∀ σ, W (.ref C) none σ H
section
variable {K : PySem.W.Frag} {hid ρ ρ1 : List Addr} {H H1 : Hp} {α β : Type} {GX GX' : Nat → Sto → List Addr → Hp → Prop}
theorem OutS.ext {r : R α} {G : α → Sto → List Addr → Hp → Prop} (h : OutS K hid ρ H r G GX) (e : Ext ρ H ρ1 H1) : OutS K hid ρ1 H1 r G GX := by
  cases r with
  | ok a S => exact fun ρ' H' e' s' => h ρ' H' (e.trans e') s'
  | exc _ _ _ => exact fun ρ' H' e' s' => h ρ' H' (e.trans e') s'
  | bad => exact h.elim
theorem OutS.mono {r : R α} {G G' : α → Sto → List Addr → Hp → Prop} (h : OutS K hid ρ H r G GX) (g : ∀ a S' ρ' H', Ext ρ H ρ' H' → G a S' ρ' H' → G' a S' ρ' H') : OutS K hid ρ H r G' GX := by
  cases r with
  | ok a S => exact fun ρ' H' e' s' => g a _ ρ' H' e' (h ρ' H' e' s')
  | exc _ _ _ => exact h
  | bad => exact h.elim
/-- the first part, that may not raise, came to a value -/
theorem OutS.bind {r : R α} {f : α → Sto → R β} {G : β → Sto → List Addr → Hp → Prop} (h : OutS K hid ρ H (r.calm.bind f) G GX) : ∃ a S, r = .ok a S ∧ ∀ ρ' H', Ext ρ H ρ' H' → OutS K hid ρ' H' (f a S) G GX := by
  cases r with
  | ok a S => exact ⟨a, S, rfl, fun ρ' H' e => OutS.ext h e⟩
  | exc _ _ _ => exact h.elim
  | bad => exact h.elim
/-- the first part may raise -/
theorem OutS.seq {r : R α} {f : α → Sto → R β} {G : β → Sto → List Addr → Hp → Prop} {G' : α → Sto → List Addr → Hp → Prop} (h : OutS K hid ρ H (r.bind f) G GX)
    (g : ∀ a S1 ρ1 H1, Ext ρ H ρ1 H1 → SOk K hid ρ1 H1 S1 → OutS K hid ρ1 H1 (f a S1) G GX → G' a S1 ρ1 H1) : OutS K hid ρ H r G' GX := by
  cases r with
  | ok a S => exact fun ρ1 H1 e1 s1 => g a S ρ1 H1 e1 s1 (OutS.ext h e1)
  | exc _ _ _ => exact h
  | bad => exact h.elim
theorem OutS.pure {a : α} {S : Sto} {G : α → Sto → List Addr → Hp → Prop} (h : OutS K hid ρ H (.ok a S) G GX) (s : SOk K hid ρ H S) : G a S ρ H := h ρ H (Ext.refl ρ H) s
theorem OutS.some {o : Option α} {S : Sto} {f : α → Sto → R β} {G : β → Sto → List Addr → Hp → Prop} (h : OutS K hid ρ H ((R.of o S).bind f) G GX) : ∃ a, o = some a ∧ OutS K hid ρ H (f a S) G GX := by
  cases o with
  | some a => exact ⟨a, rfl, h⟩
  | none => exact h.elim
theorem Out.toS {r : R α} {G : α → Sto → List Addr → Hp → Prop} (h : Out K hid ρ H r G) : OutS K hid ρ H r G GX := by
  cases r with
  | ok a S => exact h
  | exc _ _ _ => exact h.elim
  | bad => exact h.elim
end
end QE

set_option Elab.async false
set_option linter.all false
set_option maxRecDepth 10000
set_option maxHeartbeats 1000000
/-! The operators, by values. -/
namespace QE
open PySem PySem.Spec PyProof.Rows L2
section
variable {K : PySem.W.Frag} {hid ρ : List Addr} {H : Hp} {S : Sto} {p : Addr}
theorem SOk.there (s : SOk K hid ρ H S) {a : Addr} (h : a ∈ ρ) : ∃ o, H a = some o := by
  obtain ⟨n, hn, e⟩ := List.getElem_of_mem h
  have hs : n < S.length := by rw [← s.len]; exact hn
  obtain ⟨b, q, r⟩ := s.ob n S[n] (List.getElem?_eq_getElem hs)
  rw [List.getElem?_eq_getElem hn, e] at q
  cases q
  generalize S[n] = ob at r
  cases ob with
  | lst xs => obtain ⟨vs, h1, _⟩ := r; exact ⟨_, h1⟩
  | dic t kvs => cases t <;> (obtain ⟨vs, h1, _⟩ := r; exact ⟨_, h1⟩)
  | tbl p q => obtain ⟨e, ps, h1, _⟩ := r; exact ⟨_, e ▸ h1⟩
theorem SOk.new1 (s : SOk K hid ρ H S) (h : H p = none) : p ∉ ρ := fun z => by
  obtain ⟨o, q⟩ := s.there z
  rw [h] at q; cases q
theorem SOk.new2 (s : SOk K hid ρ H S) (h : H p = none) : p ∉ hid := fun z => by
  obtain ⟨o, q, _⟩ := s.hidd p z
  rw [h] at q; cases q
theorem ObRep.mono {ρ' : List Addr} {H' : Hp} (e : Ext ρ H ρ' H') {a : Addr} (hk : H' a = H a) : ∀ (o : Ob), ObRep K hid ρ H a o → ObRep K hid ρ' H' a o
  | .lst xs, ⟨vs, h1, h2⟩ => ⟨vs, hk.trans h1, RepL.mono e xs vs h2⟩
  | .dic true xs, ⟨vs, h1, h2⟩ => ⟨vs, hk.trans h1, RepT.mono e xs vs h2⟩
  | .dic false xs, ⟨vs, h1, h2⟩ => ⟨vs, hk.trans h1, RepK.mono e xs vs h2⟩
  | .tbl p q, ⟨ea, ps, h1, h2, h3⟩ => ⟨ea, ps, (ea ▸ hk).trans h1, h2, fun pos cv hc => let ⟨c, e1, e2, e3⟩ := h3 pos cv hc; ⟨c, e1, e.notin e2 ⟨_, e3, LamX.codeO_ne⟩, e.keep0 _ _ e3 e2 LamX.codeO_ne⟩⟩
theorem SOk.new (s : SOk K hid ρ H S) (h : H p = none) {o : HO} : SOk K hid ρ (upd H p o) S := by
  have ne : ∀ a ∈ ρ, a ≠ p := fun a ha z => s.new1 h (z ▸ ha)
  refine ⟨s.len, s.nd, s.apart, fun a ha => let ⟨o, x, n⟩ := s.hidd a ha; (Ext.new (ρ := ρ) h).there0 _ _ x n, fun n ob q => ?_⟩
  obtain ⟨a, h1, h2⟩ := s.ob n ob q
  exact ⟨a, h1, h2.mono (Ext.new h) (upd_ne (ne a (List.mem_of_getElem? h1)))⟩
theorem rep_newL (s : SOk K hid ρ H S) (h : H p = none) {f : Bool} {xs : List Val} {vs : List V} (r : RepL K hid ρ H xs vs) : Rep K hid ρ (upd H p (.lst vs)) (.lst f xs) (.ref p) := by
  simp only [Rep]
  exact ⟨p, vs, rfl, RdF.of upd_same, s.new1 h, s.new2 h, RepL.mono (Ext.new h) xs vs r⟩
theorem rep_newT (h : H p = none) {xs : List Val} {vs : List V} (r : RepL K hid ρ H xs vs) : Rep K hid ρ (upd H p (.tup vs)) (.tup xs) (.ref p) := by
  simp only [Rep]
  exact ⟨p, vs, rfl, upd_same, RepL.mono (Ext.new h) xs vs r⟩

theorem Ext.newC {ρ : List Addr} {H : Hp} {p : Addr} {o : HO} (h : H p = none) : Ext ρ H (ρ ++ [p]) (upd H p o) := by
  have e : Ext ρ H ρ (upd H p o) := Ext.new h
  exact ⟨⟨[p], rfl, fun b hb => by rw [List.mem_singleton.mp hb]; exact .of h⟩, e.keep0, e.there0, e.tups, e.frzs⟩
/-- a new object becomes a cell -/
theorem SOk.newC (s : SOk K hid ρ H S) (h : H p = none) {o : HO} {ob : Ob} (r : ObRep K hid (ρ ++ [p]) (upd H p o) p ob) : SOk K hid (ρ ++ [p]) (upd H p o) (S ++ [ob]) := by
  have e : Ext ρ H (ρ ++ [p]) (upd H p o) := Ext.newC h
  refine ⟨by simp [s.len], ?_, ?_, fun a ha => ?_, fun n ob' q => ?_⟩
  · rw [List.nodup_append]
    exact ⟨s.nd, by simp, fun x hx y hy => by
      rw [List.mem_singleton] at hy
      subst hy
      exact fun z => s.new1 h (z ▸ hx)⟩
  · intro b hb
    rcases List.mem_append.mp hb with hb | hb
    · exact s.apart b hb
    · rw [List.mem_singleton.mp hb]; exact s.new2 h
  · obtain ⟨u, q, n⟩ := s.hidd a ha
    exact e.there0 a u q n
  · by_cases hn : n < S.length
    · rw [List.getElem?_append_left hn] at q
      obtain ⟨b, hb, rb⟩ := s.ob n ob' q
      refine ⟨b, by rw [List.getElem?_append_left (by rw [s.len]; exact hn)]; exact hb, rb.mono e (upd_ne fun z => ?_)⟩
      exact s.new1 h (z ▸ List.mem_of_getElem? hb)
    · have hn2 : n = S.length := by
        have := (List.getElem?_eq_some_iff.mp q).1
        simp at this
        omega
      subst hn2
      rw [List.getElem?_append_right (Nat.le_refl _)] at q
      simp at q
      subst q
      exact ⟨p, by rw [← s.len, List.getElem?_append_right (Nat.le_refl _)]; simp, r⟩
theorem fresh_newL {H0 : Hp} (s : SOk K hid ρ H S) (h : H p = none) (h0 : Gone H0 p) {f : Bool} {xs : List Val} {vs : List V} (r : RepL K hid ρ H xs vs) : Fresh K hid ρ (upd H p (.lst vs)) S H0 (.lst f xs) (.ref p) := by
  cases f with
  | false => trivial
  | true => exact ⟨p, rfl, h0, s.newC h ⟨vs, upd_same, RepL.mono (Ext.newC h) _ _ r⟩⟩
theorem asList_rep (s : SOk K hid ρ H S) {x : Val} {v : V} {xs : List Val} (e : asList S x = some xs) (r : Rep K hid ρ H x v) : ∃ a vs, v = .ref a ∧ Rd H a (.lst vs) ∧ RepL K hid ρ H xs vs := by
  cases x with
  | lst f ys =>
    simp only [asList, Option.some.injEq] at e
    subst e
    simp only [Rep] at r
    obtain ⟨a, vs, h1, h2, _, _, h5⟩ := r
    exact ⟨a, vs, h1, h2.rd, h5⟩
  | ref n =>
    simp only [asList] at e
    split at e
    · rename_i ys q
      cases e
      simp only [Rep] at r
      obtain ⟨a, h1, h2⟩ := r
      obtain ⟨b, h3, vs, h4, h5⟩ := s.ob n _ q
      rw [h1] at h3; cases h3
      exact ⟨a, vs, h2, .inl h4, h5⟩
    · cases e
  | _ => simp [asList] at e
theorem asSeq_rep (s : SOk K hid ρ H S) {x : Val} {v : V} {xs : List Val} (e : asSeq S x = some xs) (r : Rep K hid ρ H x v) : ∃ a vs, v = .ref a ∧ (SqL K H a vs ∨ SqT K H a vs) ∧ RepL K hid ρ H xs vs := by
  cases x with
  | tup ys =>
    simp only [asSeq, Option.some.injEq] at e
    subst e
    simp only [Rep] at r
    obtain ⟨a, vs, h1, h2, h3⟩ := r
    exact ⟨a, vs, h1, .inr (SqT.of h2), h3⟩
  | _ =>
    obtain ⟨a, vs, h1, h2, h3⟩ := asList_rep s (by simpa only [asSeq] using e) r
    exact ⟨a, vs, h1, .inl (.inl h2), h3⟩
end

/-- two values in, one out -/
def rOf (K : PySem.W.Frag) (f : Sto → Val → Val → Option Val) : R2 := fun v w H Q => ∃ hid ρ S x y, SOk K hid ρ H S ∧ Rep K hid ρ H x v ∧ Rep K hid ρ H y w ∧
  Out K hid ρ H (R.of (f S x y) S) fun z S' ρ' H' => ∀ u, Rep K hid ρ' H' z u → Fresh K hid ρ' H' S' H z u → Q u H'
/-- two values in, a bool out -/
def rCo (K : PySem.W.Frag) (f : Sto → Val → Val → Option Bool) : R2 := fun v w H Q => ∃ hid ρ S x y b, SOk K hid ρ H S ∧ Rep K hid ρ H x v ∧ Rep K hid ρ H y w ∧ f S x y = some b ∧ Q (.bl b) H
section
variable {K : PySem.W.Frag} {hid ρ : List Addr} {H : Hp} {S : Sto} {p : Addr} {Q : VK} {z : Val} {u : V}
abbrev Gv (K : PySem.W.Frag) (hid : List Addr) (H : Hp) (Q : VK) : Val → Sto → List Addr → Hp → Prop := fun z S' ρ' H' => ∀ u, Rep K hid ρ' H' z u → Fresh K hid ρ' H' S' H z u → Q u H'
theorem fin_same (s : SOk K hid ρ H S) (h : Out K hid ρ H (.ok z S) (Gv K hid H Q)) (r : Rep K hid ρ H z u) (f : Fresh K hid ρ H S H z u := by trivial) : Q u H := h ρ H (Ext.refl ρ H) s u r f
theorem fin_new {o : HO} (s : SOk K hid ρ H S) (h : Out K hid ρ H (.ok z S) (Gv K hid H Q)) (hp : H p = none) (r : Rep K hid ρ (upd H p o) z (.ref p)) (f : Fresh K hid ρ (upd H p o) S H z (.ref p)) : Q (.ref p) (upd H p o) :=
  h ρ _ (Ext.new hp) (s.new hp) _ r f
theorem Rep.int_ {i : Int} {v : V} (h : Rep K hid ρ H (.int i) v) : v = .int i := by simpa only [Rep] using h
theorem Rep.str_ {i : List Nat} {v : V} (h : Rep K hid ρ H (.str i) v) : v = .str (strOf i) := by simpa only [Rep] using h
theorem Rep.bl_ {i : Bool} {v : V} (h : Rep K hid ρ H (.bl i) v) : v = .bl i := by simpa only [Rep] using h
theorem Rep.non_ {v : V} (h : Rep K hid ρ H .non v) : v = .non := by simpa only [Rep] using h
theorem Rep.tup_ {xs : List Val} {v : V} (h : Rep K hid ρ H (.tup xs) v) : ∃ a vs, v = .ref a ∧ H a = some (.tup vs) ∧ RepL K hid ρ H xs vs := by simpa only [Rep] using h
theorem Rep.of_int {i : Int} : Rep K hid ρ H (.int i) (.int i) := by simp only [Rep]
theorem Rep.of_bl {i : Bool} : Rep K hid ρ H (.bl i) (.bl i) := by simp only [Rep]
theorem Rep.of_str {i : List Nat} : Rep K hid ρ H (.str i) (.str (strOf i)) := by simp only [Rep]
theorem Rep.of_non : Rep K hid ρ H .non .non := by simp only [Rep]
theorem Rep.of_tup {xs : List Val} {a : Addr} {vs : List V} (h : H a = some (.tup vs)) (r : RepL K hid ρ H xs vs) : Rep K hid ρ H (.tup xs) (.ref a) := by simp only [Rep]; exact ⟨a, vs, rfl, h, r⟩
end
theorem lim_eq : lim = sizeLine := sizeLine_eq.symm

theorem strOf_app (a b : List Nat) : strOf a ++ strOf b = strOf (a ++ b) := SX.S_cat a b
section
variable {X : Cx}
theorem op_catR : OpR X (binaryOp .Add) (fun x y H Q => ∃ l b xs zs, x = .ref l ∧ y = .ref b ∧ Rd H l (.lst xs) ∧ Rd H b (.lst zs) ∧ xs.length + zs.length ≤ sizeLine ∧ ∀ p, H p = none → Q (.ref p) (upd H p (.lst (xs ++ zs)))) := by
  intro pins s σ H x y v u Q I rx ry h
  obtain ⟨l, b, xs, zs, ex, ey, h1, h2, hz, q⟩ := h
  subst ex ey
  cases rx
  cases ry
  obtain ⟨z1, its, n, r, e⟩ := h1.ok I.hok
  obtain ⟨z2, its2, n2, r2, e2⟩ := h2.ok I.hok
  have l1 := r.length
  have l2 := r2.length
  refine PySem.P.add_list e e2 ?_ (by rw [List.size_toArray, List.size_toArray]; omega)
  rw [show its.toArray ++ its2.toArray = (its ++ its2).toArray by simp]
  exact ⟨.ref _, _, Inv.lnew (t' := s.toks) I (r.append r2) (by rw [List.length_append]; omega), rfl, q _ I.fresh⟩
theorem op_addQ : OpR X (binaryOp .Add) (rOf X.K addV) := by
  intro pins s σ H v w vv ww Q I rv rw' h
  obtain ⟨hid, ρ, S, x, y, so, rx, ry, h⟩ := h
  obtain ⟨z, e, h⟩ := h.of
  unfold addV at e
  split at e
  · cases e
    cases rx.int_; cases ry.int_
    exact op_add pins s σ H _ _ _ _ Q I rv rw' ⟨_, _, rfl, rfl, fin_same so h .of_int⟩
  · rename_i a b
    split at e <;> cases e
    rename_i hz
    cases rx.str_; cases ry.str_
    refine op_add_str pins s σ H _ _ _ _ Q I rv rw' ⟨_, _, rfl, rfl, ?_, ?_⟩
    · rw [strOf_len, strOf_len, ← lim_eq]; exact hz
    · rw [strOf_app]; exact fin_same so h .of_str
  · rename_i xs ys
    split at e <;> cases e
    rename_i hz
    obtain ⟨a, vs, e1, h1, r1⟩ := rx.tup_
    obtain ⟨b, ws, e2, h2, r2⟩ := ry.tup_
    subst e1 e2
    have l1 := r1.length
    have l2 := r2.length
    refine op_catA pins s σ H _ _ _ _ Q I rv rw' ⟨a, b, vs, ws, rfl, rfl, SqT.of h1, SqT.of h2, by rw [l1, l2, ← lim_eq]; exact hz, fun e => ?_, fun _ e => ?_, fun _ _ p hp => ?_⟩
    · subst e
      have ex : xs = [] := List.eq_nil_of_length_eq_zero l1.symm
      subst ex
      exact fin_same so h (.of_tup h2 r2)
    · subst e
      have ex : ys = [] := List.eq_nil_of_length_eq_zero l2.symm
      subst ex
      rw [List.append_nil] at h
      exact fin_same so h (.of_tup h1 r1)
    · exact fin_new so h hp (rep_newT hp (r1.app r2)) trivial
  · split at e <;> try (cases e; done)
    rename_i xs ys h1 h2
    split at e <;> cases e
    rename_i hz
    obtain ⟨a, vs, e1, d1, r1⟩ := asList_rep so h1 rx
    obtain ⟨b, ws, e2, d2, r2⟩ := asList_rep so h2 ry
    subst e1 e2
    exact op_catR pins s σ H _ _ _ _ Q I rv rw' ⟨a, b, vs, ws, rfl, rfl, d1, d2, by rw [r1.length, r2.length, ← lim_eq]; exact hz, fun p hp => fin_new so h hp (rep_newL so hp (r1.app r2)) (fresh_newL so hp (.of hp) (r1.app r2))⟩
theorem op_subQ : OpR X (binaryOp .Sub) (rOf X.K subV) := by
  intro pins s σ H v w vv ww Q I rv rw' h
  obtain ⟨hid, ρ, S, x, y, so, rx, ry, h⟩ := h
  obtain ⟨z, e, h⟩ := h.of
  unfold subV at e
  split at e <;> cases e
  cases rx.int_; cases ry.int_
  exact op_sub pins s σ H _ _ _ _ Q I rv rw' ⟨_, _, rfl, rfl, fin_same so h .of_int⟩
theorem op_fdivQ : OpR X (binaryOp .FloorDiv) (rOf X.K fdivV) := by
  intro pins s σ H v w vv ww Q I rv rw' h
  obtain ⟨hid, ρ, S, x, y, so, rx, ry, h⟩ := h
  obtain ⟨z, e, h⟩ := h.of
  unfold fdivV at e
  split at e <;> try (cases e; done)
  split at e <;> cases e
  cases rx.int_; cases ry.int_
  exact op_fdivN pins s σ H _ _ _ _ Q I rv rw' ⟨_, _, rfl, rfl, by assumption, fin_same so h .of_int⟩
theorem op_modQ : OpR X (binaryOp .Mod) (rOf X.K modV) := by
  intro pins s σ H v w vv ww Q I rv rw' h
  obtain ⟨hid, ρ, S, x, y, so, rx, ry, h⟩ := h
  obtain ⟨z, e, h⟩ := h.of
  unfold modV at e
  split at e <;> try (cases e; done)
  split at e <;> cases e
  cases rx.int_; cases ry.int_
  exact op_modN pins s σ H _ _ _ _ Q I rv rw' ⟨_, _, rfl, rfl, by assumption, fin_same so h .of_int⟩
theorem op_powQ : OpR X (binaryOp .Pow) (rOf X.K powV) := by
  intro pins s σ H v w vv ww Q I rv rw' h
  obtain ⟨hid, ρ, S, x, y, so, rx, ry, h⟩ := h
  obtain ⟨z, e, h⟩ := h.of
  unfold powV at e
  split at e <;> try (cases e; done)
  split at e <;> cases e
  cases rx.int_; cases ry.int_
  exact op_pow pins s σ H _ _ _ _ Q I rv rw' ⟨_, _, rfl, rfl, by assumption, fin_same so h .of_int⟩

theorem rep_flat {α : Type} : ∀ (n : Nat) (xs : List α), rep n xs = (List.replicate n xs).flatten
  | 0, xs => rfl
  | n + 1, xs => by rw [rep, rep_flat n xs, List.replicate_succ, List.flatten_cons]
theorem RepL.rep {K : PySem.W.Frag} {hid ρ : List Addr} {H : Hp} {xs : List Val} {vs : List V} (r : RepL K hid ρ H xs vs) : ∀ n : Nat, RepL K hid ρ H (QE.rep n xs) (List.replicate n vs).flatten
  | 0 => .nil
  | n + 1 => by
    rw [List.replicate_succ, List.flatten_cons]
    exact r.app (r.rep n)
theorem cmul_of {a b : Int} (h : (small a || small b) = true) : CMul a b := by
  simp only [small, Bool.or_eq_true, Bool.and_eq_true, decide_eq_true_eq] at h
  exact h
theorem op_mulQ : OpR X (binaryOp .Mult) (rOf X.K mulV) := by
  intro pins s σ H v w vv ww Q I rv rw' h
  obtain ⟨hid, ρ, S, x, y, so, rx, ry, h⟩ := h
  obtain ⟨z, e, h⟩ := h.of
  unfold mulV at e
  split at e
  · split at e <;> cases e
    cases rx.int_; cases ry.int_
    exact op_mul pins s σ H _ _ _ _ Q I rv rw' ⟨_, _, rfl, rfl, cmul_of (by assumption), fin_same so h .of_int⟩
  · rename_i xs k
    split at e <;> try (cases e; done)
    rename_i hne
    obtain ⟨a, vs, e1, h1, r1⟩ := rx.tup_
    have l1 := r1.length
    have hv : vs ≠ [] := fun z => by
      subst z
      have : xs = [] := List.eq_nil_of_length_eq_zero l1.symm
      subst this
      exact hne rfl
    subst e1
    cases ry.int_
    split at e
    · cases e
      rename_i hc
      exact op_repT pins s σ H _ _ _ _ Q I rv rw' ⟨a, k, vs, rfl, rfl, SqT.of h1, hv, hc.1, hc.2.1, by rw [l1]; exact hc.2.2, fun p hp => fin_new so h hp (rep_newT hp (RepL.rep r1 _)) trivial⟩
    · cases e
  · rename_i xs k
    split at e <;> try (cases e; done)
    rename_i hc
    cases e
    have rx0 := rx
    simp only [Rep] at rx
    obtain ⟨a, vs, e1, h1, na, nh, r1⟩ := rx
    have l1 := r1.length
    subst e1
    cases ry.int_
    have h1 : H a = some (.lst vs) := h1
    have hz : vs.length * k.toNat ≤ sizeLine := by
      have h2 : k.toNat ≤ 1000 := by omega
      have h3 : vs.length ≤ 1000 := by rw [l1]; exact hc.2.2
      have := Nat.mul_le_mul h3 h2
      rw [sizeLine_eq]
      omega
    exact op_rep pins s σ H _ _ _ _ Q I rv rw' ⟨a, k, vs, rfl, rfl, h1, by omega, by omega, hz, fun p hp => fin_new so h hp (rep_newL so hp (RepL.rep r1 _)) (fresh_newL so hp (.of hp) (RepL.rep r1 _))⟩
  · cases e

end
/-! ### comparisons -/
mutual
def pd : Val → PyData
  | .non => .none
  | .bl b => .bool b
  | .int i => .int i
  | .str s => .str (strOf s)
  | .tup xs => .tuple (pdL xs)
  | .lst _ xs => .list (pdL xs)
  | _ => .none
def pdL : List Val → List PyData
  | [] => []
  | x :: xs => pd x :: pdL xs
end
theorem strOk_of {s : List Nat} (h : s.all (· < 1114112) = true) : PyData.strOk (strOf s) = true := by
  unfold PyData.strOk strOf
  simpa using h
mutual
theorem pd_lay : ∀ (d : Nat) (x : Val), x.chk d = true → (pd x).canLay0 = true ∧ (pd x).depth ≤ d
  | _, .non, _ => by simp [pd, PyData.canLay0, PyData.depth]
  | _, .bl b, _ => by simp [pd, PyData.canLay0, PyData.depth]
  | _, .int b, _ => by simp [pd, PyData.canLay0, PyData.depth]
  | _, .str b, h => by
    simp only [pd, PyData.canLay0, PyData.depth]
    exact ⟨strOk_of (by simpa [Val.chk] using h), Nat.zero_le _⟩
  | 0, .tup xs, h => by simp [Val.chk] at h
  | 0, .lst _ xs, h => by simp [Val.chk] at h
  | d + 1, .tup xs, h => by
    have q := pd_layL d xs (by simpa only [Val.chk] using h)
    simp only [pd, PyData.canLay0, PyData.depth]
    exact ⟨q.1, by omega⟩
  | d + 1, .lst _ xs, h => by
    have q := pd_layL d xs (by simpa only [Val.chk] using h)
    simp only [pd, PyData.canLay0, PyData.depth]
    exact ⟨q.1, by omega⟩
  | _, .dic _ _ _, h => by simp [Val.chk] at h
  | _, .ref _, h => by simp [Val.chk] at h
  | _, .kls _, h => by simp [Val.chk] at h
theorem pd_layL : ∀ (d : Nat) (xs : List Val), Val.chkL d xs = true → PyData.canLayAll0 (pdL xs) = true ∧ PyData.depthAll (pdL xs) ≤ d
  | _, [], _ => by simp [pdL, PyData.canLayAll0, PyData.depthAll]
  | d, x :: xs, h => by
    simp only [Val.chkL, Bool.and_eq_true] at h
    have q1 := pd_lay d x h.1
    have q2 := pd_layL d xs h.2
    simp only [pdL, PyData.canLayAll0, PyData.depthAll, Bool.and_eq_true]
    exact ⟨⟨q1.1, q2.1⟩, by omega⟩
end
theorem pd_shaped {x : Val} (h : x.chk 64 = true) : SeqAt.shaped (pd x) = true := by
  have q := pd_lay 64 x h
  unfold SeqAt.shaped
  rw [q.1, decide_eq_true q.2]
  rfl
theorem pdL_shaped {xs : List Val} (h : Val.chkL 63 xs = true) : SeqAt.shaped (.list (pdL xs)) = true ∧ SeqAt.shaped (.tuple (pdL xs)) = true := by
  have q := pd_layL 63 xs h
  have d1 : PyData.depth (.list (pdL xs)) ≤ 64 := by simp only [PyData.depth]; omega
  have d2 : PyData.depth (.tuple (pdL xs)) ≤ 64 := by simp only [PyData.depth]; omega
  have c1 : PyData.canLay0 (.list (pdL xs)) = true := by simp only [PyData.canLay0]; exact q.1
  have c2 : PyData.canLay0 (.tuple (pdL xs)) = true := by simp only [PyData.canLay0]; exact q.1
  exact ⟨Bool.and_eq_true_iff.mpr ⟨c1, decide_eq_true d1⟩, Bool.and_eq_true_iff.mpr ⟨c2, decide_eq_true d2⟩⟩
mutual
theorem pd_eqv : ∀ (x y : Val) (d e : Nat), x.chk d = true → y.chk e = true → x.eqv y = PyData.eqv (pd x) (pd y)
  | .non, y, _, _, _, h => by cases y <;> simp_all [pd, Val.eqv, PyData.eqv, Val.chk]
  | .bl b, y, _, _, _, h => by cases y <;> simp_all [pd, Val.eqv, PyData.eqv, Val.chk]
  | .int b, y, _, _, _, h => by cases y <;> simp_all [pd, Val.eqv, PyData.eqv, Val.chk]
  | .str b, y, _, _, _, h => by
    cases y <;> simp_all [pd, Val.eqv, PyData.eqv, Val.chk]
    rename_i b' _
    by_cases z : b = b'
    · subst z; simp
    · have : strOf b ≠ strOf b' := fun q => z (strOf_inj q)
      rw [beq_eq_false_iff_ne.mpr z, beq_eq_false_iff_ne.mpr this]
  | .tup xs, y, 0, _, h, _ => by simp [Val.chk] at h
  | .lst _ xs, y, 0, _, h, _ => by simp [Val.chk] at h
  | .tup xs, .tup ys, d + 1, 0, _, h => by simp [Val.chk] at h
  | .lst _ xs, .lst _ ys, d + 1, 0, _, h => by simp [Val.chk] at h
  | .tup xs, .tup ys, d + 1, e + 1, h1, h2 => by
    simp only [pd, Val.eqv, PyData.eqv]
    exact pd_eqvL xs ys d e (by simpa only [Val.chk] using h1) (by simpa only [Val.chk] using h2)
  | .lst _ xs, .lst _ ys, d + 1, e + 1, h1, h2 => by
    simp only [pd, Val.eqv, PyData.eqv]
    exact pd_eqvL xs ys d e (by simpa only [Val.chk] using h1) (by simpa only [Val.chk] using h2)
  | .tup xs, .non, d + 1, _, _, _ | .tup xs, .bl _, d + 1, _, _, _ | .tup xs, .int _, d + 1, _, _, _ | .tup xs, .str _, d + 1, _, _, _ | .tup xs, .lst _ _, d + 1, _, _, _ => by simp [pd, Val.eqv, PyData.eqv]
  | .lst _ xs, .non, d + 1, _, _, _ | .lst _ xs, .bl _, d + 1, _, _, _ | .lst _ xs, .int _, d + 1, _, _, _ | .lst _ xs, .str _, d + 1, _, _, _ | .lst _ xs, .tup _, d + 1, _, _, _ => by simp [pd, Val.eqv, PyData.eqv]
  | .tup xs, .dic _ _ _, d + 1, _, _, h | .tup xs, .ref _, d + 1, _, _, h | .tup xs, .kls _, d + 1, _, _, h => by simp [Val.chk] at h
  | .lst _ xs, .dic _ _ _, d + 1, _, _, h | .lst _ xs, .ref _, d + 1, _, _, h | .lst _ xs, .kls _, d + 1, _, _, h => by simp [Val.chk] at h
  | .dic _ _ _, _, _, _, h, _ => by simp [Val.chk] at h
  | .ref _, _, _, _, h, _ => by simp [Val.chk] at h
  | .kls _, _, _, _, h, _ => by simp [Val.chk] at h
theorem pd_eqvL : ∀ (xs ys : List Val) (d e : Nat), Val.chkL d xs = true → Val.chkL e ys = true → Val.eqvL xs ys = PyData.eqvAll (pdL xs) (pdL ys)
  | [], [], _, _, _, _ => by simp [pdL, Val.eqvL, PyData.eqvAll]
  | [], _ :: _, _, _, _, _ => by simp [pdL, Val.eqvL, PyData.eqvAll]
  | _ :: _, [], _, _, _, _ => by simp [pdL, Val.eqvL, PyData.eqvAll]
  | x :: xs, y :: ys, d, e, h1, h2 => by
    simp only [Val.chkL, Bool.and_eq_true] at h1 h2
    simp only [pdL, Val.eqvL, PyData.eqvAll]
    rw [pd_eqv x y d e h1.1 h2.1, pd_eqvL xs ys d e h1.2 h2.2]
end
section
variable {K : PySem.W.Frag} {hid ρ : List Addr} {H : Hp}
theorem sqL_of {a : Addr} {vs : List V} (h : Rd H a (.lst vs)) : SqL K H a vs := .inl h
mutual
theorem dp_of : ∀ (d : Nat) (x : Val) (v : V), x.chk d = true → Rep K hid ρ H x v → Dp K H v (pd x)
  | _, .non, v, _, r => by cases r.non_; simp only [pd]; exact .non
  | _, .bl b, v, _, r => by cases r.bl_; simp only [pd]; exact .bl b
  | _, .int b, v, _, r => by cases r.int_; simp only [pd]; exact .int b
  | _, .str b, v, _, r => by cases r.str_; simp only [pd]; exact .str _
  | 0, .tup xs, _, h, _ => by simp [Val.chk] at h
  | 0, .lst _ xs, _, h, _ => by simp [Val.chk] at h
  | d + 1, .tup xs, v, h, r => by
    obtain ⟨a, vs, e, h1, r1⟩ := r.tup_
    subst e
    simp only [pd]
    exact .tup (SqT.of h1) (dp_ofL d xs vs (by simpa only [Val.chk] using h) r1)
  | d + 1, .lst f xs, v, h, r => by
    simp only [Rep] at r
    obtain ⟨a, vs, e, h1, _, _, r1⟩ := r
    subst e
    simp only [pd]
    exact .lst (.inl h1.rd) (dp_ofL d xs vs (by simpa only [Val.chk] using h) r1)
  | _, .dic _ _ _, _, h, _ => by simp [Val.chk] at h
  | _, .ref _, _, h, _ => by simp [Val.chk] at h
  | _, .kls _, _, h, _ => by simp [Val.chk] at h
theorem dp_ofL : ∀ (d : Nat) (xs : List Val) (vs : List V), Val.chkL d xs = true → RepL K hid ρ H xs vs → DpAll K H vs (pdL xs)
  | _, [], vs, _, r => by simp only [RepL] at r; subst r; simp only [pdL]; exact .nil
  | d, x :: xs, vs, h, r => by
    simp only [RepL] at r
    obtain ⟨v, w, e, r1, r2⟩ := r
    subst e
    simp only [Val.chkL, Bool.and_eq_true] at h
    simp only [pdL]
    exact .cons (dp_of d x v h.1 r1.2) (dp_ofL d xs w h.2 r2)
end
/-- a value with its cell resolved -/
theorem dp_res {S : Sto} (so : SOk K hid ρ H S) {x : Val} {v : V} (r : Rep K hid ρ H x v) (h : (res S x).chk 64 = true) : Dp K H v (pd (res S x)) := by
  cases x with
  | ref n =>
    simp only [res] at h ⊢
    split at h
    · rename_i xs q
      simp only [Rep] at r
      obtain ⟨a, h1, h2⟩ := r
      obtain ⟨b, h3, vs, h4, h5⟩ := so.ob n _ q
      rw [h1] at h3; cases h3
      subst h2
      simp only [q, pd]
      exact .lst (.inl (.inl h4)) (dp_ofL 63 xs vs (by simpa only [Val.chk] using h) h5)
    · simp [Val.chk] at h
  | _ => exact dp_of 64 _ v h r
end
section
variable {X : Cx}
theorem op_eqQ (hu : X.A.units + 64 < cLine) : OpR X (compareOp .Eq) (rCo X.K eqVal) := by
  intro pins s σ H v w vv ww Q I rv rw' h
  obtain ⟨hid, ρ, S, x, y, b, so, rx, ry, e, q⟩ := h
  unfold eqVal at e
  split at e <;> cases e
  rename_i hc
  simp only [Bool.and_eq_true] at hc
  refine op_eqD hu pins s σ H _ _ _ _ Q I rv rw' ⟨_, _, dp_res so rx hc.1, dp_res so ry hc.2, pd_shaped hc.1, pd_shaped hc.2, ?_⟩
  rw [← pd_eqv _ _ 64 64 hc.1 hc.2]
  exact q
theorem op_neQ (hu : X.A.units + 64 < cLine) : OpR X (compareOp .NotEq) (rCo X.K fun S x y => nt (eqVal S x y)) := by
  intro pins s σ H v w vv ww Q I rv rw' h
  obtain ⟨hid, ρ, S, x, y, b, so, rx, ry, e, q⟩ := h
  simp only [nt, eqVal] at e
  split at e <;> cases e
  rename_i b hb
  split at hb <;> cases hb
  rename_i hc
  simp only [Bool.and_eq_true] at hc
  refine op_neD hu pins s σ H _ _ _ _ Q I rv rw' ⟨_, _, dp_res so rx hc.1, dp_res so ry hc.2, pd_shaped hc.1, pd_shaped hc.2, ?_⟩
  rw [← pd_eqv _ _ 64 64 hc.1 hc.2]
  exact q
theorem lexLt_iff : ∀ a b : List Nat, QE.lexLt a b = decide (a < b)
  | [], [] => by simp [QE.lexLt]
  | [], _ :: _ => by simp [QE.lexLt]
  | _ :: _, [] => by simp [QE.lexLt]
  | a :: r, b :: s => by
    unfold QE.lexLt
    by_cases h : a = b
    · subst h
      rw [if_pos rfl, lexLt_iff r s]
      simp [List.cons_lt_cons_iff]
    · rw [if_neg h]
      simp [List.cons_lt_cons_iff, h]
theorem ints_rep {K : PySem.W.Frag} {hid ρ : List Addr} {H : Hp} : ∀ {xs : List Val} {vs : List V} {is : List Int}, RepL K hid ρ H xs vs → ints? xs = some is → vs = is.map V.int
  | [], vs, is, r, e => by
    simp only [RepL] at r
    simp only [ints?] at e
    cases e
    exact r
  | x :: xs, vs, is, r, e => by
    simp only [RepL] at r
    obtain ⟨v, w, e1, r1, r2⟩ := r
    cases x <;> simp only [ints?] at e <;> try (cases e; done)
    split at e <;> cases e
    rename_i l hl
    rw [e1, r1.2.int_, ints_rep r2 hl]
    rfl
theorem lexLtI_eq : ∀ a b : List Int, lexLtI a b = HT.lexLt a b
  | [], [] => rfl
  | [], _ :: _ => rfl
  | _ :: _, [] => rfl
  | a :: r, b :: s => by
    unfold lexLtI
    rw [HT.lexLt_cons, lexLtI_eq r s]
theorem op_ltQ (hu : X.A.units < cLine) : OpR X (compareOp .Lt) (rCo X.K fun _ => ltVal) := by
  intro pins s σ H v w vv ww Q I rv rw' h
  obtain ⟨hid, ρ, S, x, y, b, so, rx, ry, e, q⟩ := h
  simp only [ltVal] at e
  split at e
  · cases e
    cases rx.int_; cases ry.int_
    exact op_lt pins s σ H _ _ _ _ Q I rv rw' ⟨_, _, rfl, rfl, q⟩
  · cases e
    cases rx.str_; cases ry.str_
    refine op_lt_str pins s σ H _ _ _ _ Q I rv rw' ⟨_, _, rfl, rfl, ?_⟩
    rw [strOf_list, strOf_list, ← lexLt_iff]
    exact q
  · split at e <;> cases e
    rename_i h1 h2
    obtain ⟨a, vs, e1, d1, r1⟩ := rx.tup_
    obtain ⟨b, ws, e2, d2, r2⟩ := ry.tup_
    have f1 := ints_rep r1 h1
    have f2 := ints_rep r2 h2
    subst e1 e2 f1 f2
    refine op_ltT hu pins s σ H _ _ _ _ Q I rv rw' ⟨_, _, _, _, rfl, rfl, SqT.of d1, SqT.of d2, ?_⟩
    rw [← lexLtI_eq]
    exact q
  · cases e
theorem op_gtQ : OpR X (compareOp .Gt) (rCo X.K fun _ => gtVal) := by
  intro pins s σ H v w vv ww Q I rv rw' h
  obtain ⟨hid, ρ, S, x, y, b, so, rx, ry, e, q⟩ := h
  simp only [gtVal] at e
  split at e <;> cases e
  cases rx.int_; cases ry.int_
  exact op_gt pins s σ H _ _ _ _ Q I rv rw' ⟨_, _, rfl, rfl, q⟩
theorem op_leQ : OpR X (compareOp .LtE) (rCo X.K fun _ => leVal) := by
  intro pins s σ H v w vv ww Q I rv rw' h
  obtain ⟨hid, ρ, S, x, y, b, so, rx, ry, e, q⟩ := h
  simp only [leVal] at e
  split at e <;> cases e
  cases rx.int_; cases ry.int_
  exact op_le pins s σ H _ _ _ _ Q I rv rw' ⟨_, _, rfl, rfl, q⟩
theorem op_geQ : OpR X (compareOp .GtE) (rCo X.K fun _ x y => leVal y x) := by
  intro pins s σ H v w vv ww Q I rv rw' h
  obtain ⟨hid, ρ, S, x, y, b, so, rx, ry, e, q⟩ := h
  simp only [leVal] at e
  split at e <;> cases e
  cases rx.int_; cases ry.int_
  exact op_ge pins s σ H _ _ _ _ Q I rv rw' ⟨_, _, rfl, rfl, q⟩
end
end QE

set_option Elab.async false
set_option linter.all false
set_option maxRecDepth 10000
set_option maxHeartbeats 1000000
/-! in, is, items, slices, dicts, by values. -/
namespace QE
open PySem PySem.Spec PyProof.Rows L2
section
variable {K : PySem.W.Frag} {hid ρ : List Addr} {H : Hp} {S : Sto}
theorem flatKey_rep {x : Val} {v : V} (h : x.flatKey = true) (r : Rep K hid ρ H x v) : v = kV (keyOf x) := by
  cases x <;> simp only [Val.flatKey] at h <;> try (cases h; done)
  · rw [r.int_]; rfl
  · rw [r.str_]; rfl
theorem flatKeys_rep : ∀ {xs : List Val} {vs : List V}, xs.all Val.flatKey = true → RepL K hid ρ H xs vs → vs = (xs.map keyOf).map kV
  | [], vs, _, r => by simp only [RepL] at r; exact r
  | x :: xs, vs, h, r => by
    simp only [RepL] at r
    obtain ⟨v, w, e, r1, r2⟩ := r
    simp only [List.all_cons, Bool.and_eq_true] at h
    rw [e, flatKey_rep h.1 r1.2, flatKeys_rep h.2 r2]
    rfl
theorem flatEq_iff {x y : Val} (hx : x.flatKey = true) (hy : y.flatKey = true) : flatEq x y = decide (keyOf x = keyOf y) := by
  cases x <;> simp only [Val.flatKey] at hx <;> try (cases hx; done)
  · cases y <;> simp only [Val.flatKey] at hy <;> try (cases hy; done)
    · rename_i a b
      show (a == b) = decide ((Sum.inl a : L2.Key) = Sum.inl b)
      exact (key_ll a b).symm
    · rename_i a b
      simp only [flatEq, keyOf]
      exact (decide_eq_false (fun z => nomatch z)).symm
  · cases y <;> simp only [Val.flatKey] at hy <;> try (cases hy; done)
    · rename_i a b
      simp only [flatEq, keyOf]
      exact (decide_eq_false (fun z => nomatch z)).symm
    · rename_i a b
      show (a == b) = decide ((Sum.inr (strOf a) : L2.Key) = Sum.inr (strOf b))
      rw [key_rr]
      by_cases h : a = b
      · subst h; simp
      · rw [decide_eq_false (fun z => h (strOf_inj z))]; exact beq_eq_false_iff_ne.mpr h
theorem flatEqL_iff : ∀ {xs ys : List Val}, xs.all Val.flatKey = true → ys.all Val.flatKey = true → flatEqL xs ys = decide (xs.map keyOf = ys.map keyOf)
  | [], [], _, _ => by simp [flatEqL]
  | [], _ :: _, _, _ => by simp [flatEqL]
  | _ :: _, [], _, _ => by simp [flatEqL]
  | x :: xs, y :: ys, h1, h2 => by
    simp only [List.all_cons, Bool.and_eq_true] at h1 h2
    simp only [flatEqL, flatEq_iff h1.1 h2.1, flatEqL_iff h1.2 h2.2, List.map_cons, List.cons.injEq, Bool.decide_and]
theorem isKey_true {x : Val} (h : x.isKey true = true) : ∃ xs, x = .tup xs ∧ xs.all Val.flatKey = true := by
  cases x <;> simp [Val.isKey] at h
  exact ⟨_, rfl, by simpa using h⟩
theorem keyEq_t {x y : Val} (hx : x.isKey true = true) (hy : y.isKey true = true) : keyEq x y = decide (keysOf x = keysOf y) := by
  obtain ⟨xs, rfl, h1⟩ := isKey_true hx
  obtain ⟨ys, rfl, h2⟩ := isKey_true hy
  simp only [keyEq, keysOf]
  exact flatEqL_iff h1 h2
theorem keyEq_f {x y : Val} (hx : x.flatKey = true) (hy : y.flatKey = true) : keyEq x y = decide (keyOf x = keyOf y) := by
  rw [← flatEq_iff hx hy]
  cases x <;> simp only [Val.flatKey] at hx <;> (try (cases hx; done)) <;> cases y <;> simp only [Val.flatKey] at hy <;> (try (cases hy; done)) <;> rfl
/-- a look-up, in both -/
theorem dGet_t {k : Val} (hk : k.isKey true = true) : ∀ {kvs : List (Val × Val)} {ws : List (List L2.Key × V)}, RepT K hid ρ H kvs ws →
    (∀ x, dGet k kvs = some x → ∃ v, valV ws (keysOf k) = some v ∧ x.st = true ∧ Rep K hid ρ H x v) ∧ (dGet k kvs = none → valV ws (keysOf k) = none)
  | [], ws, r => by
    simp only [RepT] at r
    subst r
    exact ⟨fun x e => by simp [dGet] at e, fun _ => rfl⟩
  | (q, u) :: kvs, ws, r => by
    simp only [RepT] at r
    obtain ⟨v, w, e, hq, r1, r2⟩ := r
    subst e
    have ih := dGet_t hk r2
    simp only [dGet, keyEq_t hq hk, decide_eq_true_eq]
    by_cases z : keysOf q = keysOf k
    · simp only [if_pos z]
      refine ⟨fun x e => ?_, fun e => by cases e⟩
      cases e
      exact ⟨v, valV_pos z, r1⟩
    · simp only [if_neg z]
      rw [valV_neg z]
      exact ih
theorem dGet_f {k : Val} (hk : k.flatKey = true) : ∀ {kvs : List (Val × Val)} {ws : List (L2.Key × V)}, RepK K hid ρ H kvs ws →
    (∀ x, dGet k kvs = some x → ∃ v, valV ws (keyOf k) = some v ∧ x.st = true ∧ Rep K hid ρ H x v) ∧ (dGet k kvs = none → valV ws (keyOf k) = none)
  | [], ws, r => by
    simp only [RepK] at r
    subst r
    exact ⟨fun x e => by simp [dGet] at e, fun _ => rfl⟩
  | (q, u) :: kvs, ws, r => by
    simp only [RepK] at r
    obtain ⟨v, w, e, hq, r1, r2⟩ := r
    subst e
    have ih := dGet_f hk r2
    simp only [dGet, keyEq_f hq hk, decide_eq_true_eq]
    by_cases z : keyOf q = keyOf k
    · simp only [if_pos z]
      refine ⟨fun x e => ?_, fun e => by cases e⟩
      cases e
      exact ⟨v, valV_pos z, r1⟩
    · simp only [if_neg z]
      rw [valV_neg z]
      exact ih
/-- what a dict value says -/
theorem asDic_rep (so : SOk K hid ρ H S) {x : Val} {v : V} {t : Bool} {kvs : List (Val × Val)} (e : asDic S x = some (t, kvs)) (r : Rep K hid ρ H x v) :
    ∃ a, v = .ref a ∧ ((t = true ∧ ∃ ws, H a = some (.dT ws) ∧ RepT K hid ρ H kvs ws) ∨ (t = false ∧ ∃ ws, H a = some (.dK ws) ∧ RepK K hid ρ H kvs ws)) := by
  cases x with
  | dic f t' kvs' =>
    simp only [asDic, Option.some.injEq, Prod.mk.injEq] at e
    obtain ⟨rfl, rfl⟩ := e
    cases t'
    · simp only [Rep] at r
      obtain ⟨a, ws, h1, h2, _, _, h5⟩ := r
      exact ⟨a, h1, .inr ⟨rfl, ws, h2, h5⟩⟩
    · simp only [Rep] at r
      obtain ⟨a, ws, h1, h2, _, _, h5⟩ := r
      exact ⟨a, h1, .inl ⟨rfl, ws, h2, h5⟩⟩
  | ref n =>
    simp only [asDic] at e
    split at e
    · rename_i t' kvs' q
      cases e
      simp only [Rep] at r
      obtain ⟨a, h1, h2⟩ := r
      obtain ⟨b, h3, h4⟩ := so.ob n _ q
      rw [h1] at h3; cases h3
      cases t
      · obtain ⟨ws, h5, h6⟩ := h4; exact ⟨a, h2, .inr ⟨rfl, ws, h5, h6⟩⟩
      · obtain ⟨ws, h5, h6⟩ := h4; exact ⟨a, h2, .inl ⟨rfl, ws, h5, h6⟩⟩
    · cases e
  | _ => simp [asDic] at e
/-- the layer's look-up of it -/
theorem dget_rep (so : SOk K hid ρ H S) {x k : Val} {v kv : V} {t : Bool} {kvs : List (Val × Val)} (e : asDic S x = some (t, kvs)) (r : Rep K hid ρ H x v) (hk : k.isKey t = true) (rk : Rep K hid ρ H k kv) :
    ∃ a o, v = .ref a ∧ DGet H a kv o ∧ o.isSome = (dGet k kvs).isSome ∧ ∀ y, dGet k kvs = some y → ∃ u, o = some u ∧ y.st = true ∧ Rep K hid ρ H y u := by
  obtain ⟨a, ea, h⟩ := asDic_rep so e r
  rcases h with ⟨rfl, ws, h1, h2⟩ | ⟨rfl, ws, h1, h2⟩
  · obtain ⟨ks, e2, h3⟩ := isKey_true hk
    subst e2
    obtain ⟨b, vs, e3, h4, r4⟩ := rk.tup_
    have h5 := flatKeys_rep h3 r4
    subst e3 h5
    have g := dGet_t hk h2
    refine ⟨a, _, ea, DGet.t h1 h4, ?_, fun y q => g.1 y q⟩
    cases q : dGet (.tup ks) kvs with
    | none => rw [show valV ws (ks.map keyOf) = none from g.2 q]; rfl
    | some y => obtain ⟨u, h6, _⟩ := g.1 y q; rw [show valV ws (ks.map keyOf) = some u from h6]; rfl
  · have h3 : k.flatKey = true := by simpa [Val.isKey] using hk
    have h4 := flatKey_rep h3 rk
    subst h4
    have g := dGet_f h3 h2
    refine ⟨a, _, ea, DGet.k h1, ?_, fun y q => g.1 y q⟩
    cases q : dGet k kvs with
    | none => rw [g.2 q]; rfl
    | some y => obtain ⟨u, h6, _⟩ := g.1 y q; rw [h6]; rfl

theorem flat_V {x : Val} {v : V} (h : x.flat = true) (r : Rep K hid ρ H x v) : flatV v = true := by
  cases x <;> simp only [Val.flat] at h <;> try (cases h; done)
  · rw [r.non_]; rfl
  · rw [r.bl_]; rfl
  · rw [r.int_]; rfl
  · rw [r.str_]; rfl
theorem flat_Vs : ∀ {xs : List Val} {vs : List V}, xs.all Val.flat = true → RepL K hid ρ H xs vs → vs.all flatV = true
  | [], vs, _, r => by simp only [RepL] at r; subst r; rfl
  | x :: xs, vs, h, r => by
    simp only [RepL] at r
    obtain ⟨v, w, e, r1, r2⟩ := r
    simp only [List.all_cons, Bool.and_eq_true] at h
    rw [e, List.all_cons, flat_V h.1 r1.2, flat_Vs h.2 r2]
    rfl
theorem str_beq (a b : List Nat) : (strOf a == strOf b) = (a == b) := by
  by_cases h : a = b
  · subst h; simp
  · rw [beq_eq_false_iff_ne.mpr h, beq_eq_false_iff_ne.mpr (fun z => h (strOf_inj z))]
theorem flat_eqV {x y : Val} {v w : V} (hx : x.flat = true) (hy : y.flat = true) (r : Rep K hid ρ H x v) (q : Rep K hid ρ H y w) : eqV v w = x.eqv y := by
  cases x <;> simp only [Val.flat] at hx <;> (try (cases hx; done)) <;> cases y <;> simp only [Val.flat] at hy <;> (try (cases hy; done)) <;>
    (simp only [Rep] at r q; subst r q; simp only [eqV, Val.eqv, str_beq])
theorem flat_any {x : Val} {v : V} (hx : x.flat = true) (r : Rep K hid ρ H x v) : ∀ {ys : List Val} {vs : List V}, ys.all Val.flat = true → RepL K hid ρ H ys vs → inV v vs = ys.any fun y => y.eqv x
  | [], vs, _, q => by simp only [RepL] at q; subst q; rfl
  | y :: ys, vs, h, q => by
    simp only [RepL] at q
    obtain ⟨w, l, e, r1, r2⟩ := q
    simp only [List.all_cons, Bool.and_eq_true] at h
    have ih := flat_any hx r h.2 r2
    unfold inV at ih ⊢
    rw [e, List.any_cons, List.any_cons, ih, flat_eqV h.1 hx r1.2 r]
theorem pdL_any {x : Val} (hx : x.chk 64 = true) : ∀ (ys : List Val) (d : Nat), Val.chkL d ys = true → ((pdL ys).any fun z => PyData.eqv z (pd x)) = ys.any fun y => y.eqv x
  | [], _, _ => rfl
  | y :: ys, d, h => by
    simp only [Val.chkL, Bool.and_eq_true] at h
    simp only [pdL, List.any_cons]
    rw [pdL_any hx ys d h.2, pd_eqv y x d 64 h.1 hx]
theorem dp_list (so : SOk K hid ρ H S) {y : Val} {v : V} {ys : List Val} (e : asList S y = some ys) (r : Rep K hid ρ H y v) (h : Val.chkL 63 ys = true) : Dp K H v (.list (pdL ys)) := by
  obtain ⟨a, vs, e1, h1, r1⟩ := asList_rep so e r
  subst e1
  exact .lst (.inl h1) (dp_ofL 63 ys vs h r1)
end
section
variable {X : Cx}
theorem in_both (neg : Bool) (hu : X.A.units + 65 < cLine) {op : CmpOp} (hop : op = if neg then .NotIn else .In) : OpR X (compareOp op) (rCo X.K fun S x y => if neg then nt (isIn S x y) else isIn S x y) := by
  intro pins s σ H v w vv ww Q I rv rw' h
  obtain ⟨hid, ρ, S, x, y, b, so, rx, ry, e, q⟩ := h
  have e' : ∃ c, isIn S x y = some c ∧ b = if neg then !c else c := by
    cases neg
    · exact ⟨b, e, rfl⟩
    · simp only [if_true, nt] at e
      split at e <;> cases e
      rename_i c hc
      exact ⟨c, hc, rfl⟩
  clear e
  obtain ⟨c, e, eb⟩ := e'
  subst eb
  unfold isIn at e
  split at e
  · rename_i bs
    unfold hasStr at e
    split at e <;> cases e
    rename_i c0
    cases rx.str_; cases ry.str_
    cases neg
    · subst hop
      refine op_in_sign pins s σ H _ _ _ _ Q I rv rw' ⟨c0, _, rfl, rfl, ?_⟩
      rw [strOf_list]
      exact q
    · subst hop
      refine op_notIn_sign pins s σ H _ _ _ _ Q I rv rw' ⟨c0, _, rfl, rfl, ?_⟩
      rw [strOf_list]
      exact q
  · rename_i ys
    unfold hasFlat at e
    split at e <;> cases e
    rename_i hf
    simp only [Bool.and_eq_true] at hf
    obtain ⟨a, vs, e1, h1, r1⟩ := ry.tup_
    subst e1
    have q' := flat_any hf.1 rx hf.2 r1
    cases neg
    · subst hop
      refine op_in_seq pins s σ H _ _ _ _ Q I rv rw' ⟨a, vs, rfl, .inr (SqT.of h1), flat_V hf.1 rx, flat_Vs hf.2 r1, ?_⟩
      simp only [Bool.false_eq_true, if_false, q'] at q ⊢
      exact q
    · subst hop
      refine op_notIn_seq pins s σ H _ _ _ _ Q I rv rw' ⟨a, vs, rfl, .inr (SqT.of h1), flat_V hf.1 rx, flat_Vs hf.2 r1, ?_⟩
      simp only [if_true, q'] at q ⊢
      exact q
  · split at e
    · rename_i ys hl
      unfold anyEq at e
      split at e <;> cases e
      rename_i hc
      simp only [Bool.and_eq_true] at hc
      have p1 := pdL_any hc.1 ys 63 hc.2
      cases neg
      · subst hop
        refine op_inD hu pins s σ H _ _ _ _ Q I rv rw' ⟨_, _, dp_of 64 x v hc.1 rx, dp_list so hl ry hc.2, pd_shaped hc.1, (pdL_shaped hc.2).1, ?_⟩
        rw [p1]
        exact q
      · subst hop
        refine op_notInD hu pins s σ H _ _ _ _ Q I rv rw' ⟨_, _, dp_of 64 x v hc.1 rx, dp_list so hl ry hc.2, pd_shaped hc.1, (pdL_shaped hc.2).1, ?_⟩
        rw [p1]
        exact q
    · unfold hasDic at e
      split at e
      · rename_i t kvs hd
        split at e <;> cases e
        rename_i hk
        obtain ⟨a, o, ea, g, ho, _⟩ := dget_rep so hd ry hk rx
        subst ea
        cases rw'
        rw [← ho] at q
        cases neg
        · subst hop
          exact d_in (by omega) I g rv fun s' I' => ⟨.bl _, H, I', rfl, q⟩
        · subst hop
          exact d_notIn (by omega) I g rv fun s' I' => ⟨.bl _, H, I', rfl, q⟩
      · cases e
theorem op_inQ (hu : X.A.units + 65 < cLine) : OpR X (compareOp .In) (rCo X.K isIn) := in_both false hu rfl
theorem op_ninQ (hu : X.A.units + 65 < cLine) : OpR X (compareOp .NotIn) (rCo X.K fun S x y => nt (isIn S x y)) := in_both true hu rfl
theorem non_iff {K : PySem.W.Frag} {hid ρ : List Addr} {H : Hp} {x : Val} {v : V} (r : Rep K hid ρ H x v) (h : x ≠ .non) : v ≠ .non := by
  intro z
  subst z
  cases x with
  | non => exact h rfl
  | bl b => cases r.bl_
  | int b => cases r.int_
  | str b => cases r.str_
  | tup xs => obtain ⟨a, vs, e, _⟩ := r.tup_; cases e
  | lst f xs => simp only [Rep] at r; obtain ⟨a, vs, e, _⟩ := r; cases e
  | dic f t kvs => cases t <;> (simp only [Rep] at r; obtain ⟨a, vs, e, _⟩ := r; cases e)
  | ref n => simp only [Rep] at r; obtain ⟨a, _, e⟩ := r; cases e
  | kls ns => simp only [Rep] at r; obtain ⟨a, e, _⟩ := r; cases e
  | fn f a => simp only [Rep] at r; cases r
  | exn k a => simp only [Rep] at r; cases r
theorem is_both (neg : Bool) {op : CmpOp} (hop : op = if neg then .IsNot else .Is) : OpR X (compareOp op) (rCo X.K fun _ x y => if neg then nt (isVal x y) else isVal x y) := by
  intro pins s σ H v w vv ww Q I rv rw' h
  obtain ⟨hid, ρ, S, x, y, b, so, rx, ry, e, q⟩ := h
  have e' : ∃ c, isVal x y = some c ∧ b = if neg then !c else c := by
    cases neg
    · exact ⟨b, e, rfl⟩
    · simp only [if_true, nt] at e
      split at e <;> cases e
      rename_i c hc
      exact ⟨c, hc, rfl⟩
  clear e
  obtain ⟨c, e, eb⟩ := e'
  subst eb
  unfold isVal at e
  split at e
  · cases e
    cases rx.non_; cases ry.non_
    cases neg
    · subst hop; exact op_isN pins s σ H _ _ _ _ Q I rv rw' ⟨rfl, q⟩
    · subst hop; exact op_notN pins s σ H _ _ _ _ Q I rv rw' ⟨rfl, q⟩
  · cases e
    cases rx.bl_; cases ry.bl_
    cases neg
    · subst hop; exact op_isBl pins s σ H _ _ _ _ Q I rv rw' ⟨_, _, rfl, rfl, q⟩
    · subst hop; exact op_notBl pins s σ H _ _ _ _ Q I rv rw' ⟨_, _, rfl, rfl, q⟩
  · rename_i hx
    cases e
    cases ry.non_
    have hn := non_iff rx (fun z => hx z)
    cases neg
    · subst hop; exact op_isN pins s σ H _ _ _ _ Q I rv rw' ⟨rfl, by rw [decide_eq_false hn]; exact q⟩
    · subst hop; exact op_notN pins s σ H _ _ _ _ Q I rv rw' ⟨rfl, by rw [decide_eq_false hn]; exact q⟩
  · cases e
theorem op_isQ : OpR X (compareOp .Is) (rCo X.K fun _ x y => isVal x y) := is_both false rfl
theorem op_isnQ : OpR X (compareOp .IsNot) (rCo X.K fun _ x y => nt (isVal x y)) := is_both true rfl
end
end QE

set_option Elab.async false
set_option linter.all false
set_option maxRecDepth 10000
set_option maxHeartbeats 1000000
/-! Items, slices, built-ins, by values. -/
namespace QE
open PySem PySem.Spec PyProof.Rows L2
theorem ixN_eq (n : Nat) (i : Int) : QE.ixN n i = L2.ixN n i := rfl
theorem atI_eq {α : Type} (xs : List α) (i : Int) : QE.atI xs i = L2.atI xs i := by
  unfold QE.atI L2.atI
  rw [ixN_eq]
  cases L2.ixN xs.length i <;> rfl
theorem clip_sIx (n d : Nat) (o : Option Int) : clip n d o = HT.sIx n d o := by cases o <;> rfl
section
variable {K : PySem.W.Frag} {hid ρ : List Addr} {H : Hp} {S : Sto}
theorem RepL.atI {xs : List Val} {vs : List V} {i : Int} {x : Val} (r : RepL K hid ρ H xs vs) (e : QE.atI xs i = some x) : ∃ v, L2.atI vs i = some v ∧ x.st = true ∧ Rep K hid ρ H x v := by
  rw [atI_eq] at e
  unfold L2.atI at e ⊢
  rw [r.length]
  cases h : L2.ixN xs.length i with
  | none => rw [h] at e; cases e
  | some j => rw [h] at e; exact r.get e
theorem itemOf_int {α : Type} {xs : List α} {i : Val} {x : α} (e : itemOf xs i = some x) : ∃ k, i = .int k ∧ QE.atI xs k = some x := by
  cases i <;> simp only [itemOf] at e <;> try (cases e; done)
  exact ⟨_, rfl, e⟩
theorem RepL.cut {xs : List Val} {vs : List V} (r : RepL K hid ρ H xs vs) (lo hi : Option Int) : RepL K hid ρ H (cut xs lo hi) (cutV vs lo hi) := by
  unfold QE.cut cutV
  rw [r.length, clip_sIx, clip_sIx]
  exact (r.drop _).take _
end
section
variable {X : Cx}
theorem ix_dict (hu : X.A.units + 1 < cLine) : IxR X (fun x y H Q => ∃ a v, x = .ref a ∧ DGet H a y (some v) ∧ Q v H) := by
  intro value slice pins s σ H x y v u Q I rx ry h hs
  obtain ⟨a, w, ex, g, q⟩ := h
  subst ex
  cases rx
  exact tail_any (dict_typeIs I g) PySem.F.slot_dict_getitem.lookup (d_getItem hu I g ry fun w' s' I' rw' => ⟨w, H, I', rw', q⟩) hs
theorem ix_Q (hu : X.A.units + 1 < cLine) : IxR X (rOf X.K item) := by
  intro value slice pins s σ H v w vv ww Q I rv rw' h hs
  obtain ⟨hid, ρ, S, x, y, so, rx, ry, h⟩ := h
  obtain ⟨z, e, hh⟩ := h.of
  clear h
  unfold item at e
  split at e
  · rename_i xs
    obtain ⟨k, ey, e⟩ := itemOf_int e
    subst ey
    obtain ⟨a, vs, ea, h1, r1⟩ := rx.tup_
    obtain ⟨u, hu', r2⟩ := r1.atI e
    subst ea
    cases ry.int_
    refine ix_tup value slice pins s σ H _ _ _ _ Q I rv rw' ⟨a, vs, k, u, rfl, rfl, SqT.of h1, hu', ?_⟩ hs
    exact fin_same so hh r2.2 (.of_st r2.1)
  · rename_i bs
    split at e
    · rename_i hz
      cases hc : itemOf bs y with
      | none => rw [hc] at e; cases e
      | some c =>
        rw [hc] at e
        cases e
        obtain ⟨k, ey, e⟩ := itemOf_int hc
        subst ey
        cases rx.str_; cases ry.int_
        refine ix_str value slice pins s σ H _ _ _ _ Q I rv rw' ⟨_, k, c, rfl, rfl, ?_, ?_, fin_same so hh .of_str⟩ hs
        · rw [strOf_len, ← lim_eq]; exact hz
        · rw [strOf_list, ← atI_eq]; exact e
    · cases e
  · split at e
    · rename_i xs hl
      obtain ⟨k, ey, e⟩ := itemOf_int e
      subst ey
      obtain ⟨a, vs, ea, h1, r1⟩ := asList_rep so hl rx
      obtain ⟨u, hu', r2⟩ := r1.atI e
      subst ea
      cases ry.int_
      refine ix_list value slice pins s σ H _ _ _ _ Q I rv rw' ⟨a, vs, k, u, rfl, rfl, .inl h1, hu', ?_⟩ hs
      exact fin_same so hh r2.2 (.of_st r2.1)
    · unfold itemDic at e
      split at e
      · rename_i t kvs hd
        split at e
        · rename_i hk
          obtain ⟨a, o, ea, g, _, hy⟩ := dget_rep so hd rx hk ry
          obtain ⟨u, eo, r2⟩ := hy z e
          subst eo ea
          refine ix_dict hu value slice pins s σ H _ _ _ _ Q I rv rw' ⟨a, u, rfl, g, ?_⟩ hs
          exact fin_same so hh r2.2 (.of_st r2.1)
        · cases e
      · cases e

/-! ### slices -/
def rSl (K : PySem.W.Frag) : V → Option Int → Option Int → Hp → VK → Prop := fun v lo hi H Q => ∃ hid ρ S x, SOk K hid ρ H S ∧ Rep K hid ρ H x v ∧ Out K hid ρ H (R.of (QE.slice S x lo hi) S) (Gv K hid H Q)
theorem sl_Q : SlR X (rSl X.K) := by
  intro pins s σ H v vv vl vu lo hi sl Q I rv hs pl pu h
  obtain ⟨hid, ρ, S, x, so, rx, h⟩ := h
  obtain ⟨z, e, hh⟩ := h.of
  clear h
  unfold QE.slice at e
  split at e
  · rename_i xs
    cases e
    obtain ⟨a, vs, ea, h1, r1⟩ := rx.tup_
    subst ea
    refine sl_tupA pins s σ H _ _ vl vu lo hi sl Q I rv hs pl pu ⟨a, vs, rfl, SqT.of h1, fun hw => ?_, fun _ p hp => fin_new so hh hp (rep_newT hp (r1.cut lo hi)) trivial⟩
    have e1 : cut xs lo hi = xs := by
      unfold QE.cut
      rw [clip_sIx, clip_sIx]
      rw [r1.length] at hw
      rw [hw.1, hw.2]
      simp
    rw [e1] at hh
    exact fin_same so hh (.of_tup h1 r1) trivial
  · rename_i bs
    split at e <;> cases e
    rename_i hz
    cases rx.str_
    refine sl_str pins s σ H _ _ vl vu lo hi sl Q I rv hs pl pu ⟨_, rfl, by rw [strOf_len, ← lim_eq]; exact hz, ?_⟩
    have e1 : cutS (strOf bs) lo hi = strOf (cut bs lo hi) := by
      unfold cutS QE.cut
      rw [strOf_list, strOf_len, clip_sIx, clip_sIx]
      rfl
    rw [e1]
    exact fin_same so hh .of_str trivial
  · split at e <;> cases e
    rename_i xs hl
    obtain ⟨a, vs, ea, h1, r1⟩ := asList_rep so hl rx
    subst ea
    exact sl_list pins s σ H _ _ vl vu lo hi sl Q I rv hs pl pu ⟨a, vs, rfl, .inl h1, fun p hp => fin_new so hh hp (rep_newL so hp (r1.cut lo hi)) (fresh_newL so hp (.of hp) (r1.cut lo hi))⟩

/-! ### built-ins -/
def rBi (K : PySem.W.Frag) (f : Sto → List Val → Option Val) : List V → Hp → VK → Prop := fun vs H Q => ∃ hid ρ S xs, SOk K hid ρ H S ∧ RepL K hid ρ H xs vs ∧ Out K hid ρ H (R.of (f S xs) S) (Gv K hid H Q)
section
variable {K : PySem.W.Frag} {hid ρ : List Addr} {H : Hp} {S : Sto}
theorem RepL.one {x : Val} {vs : List V} (r : RepL K hid ρ H [x] vs) : ∃ v, vs = [v] ∧ Rep K hid ρ H x v := by
  simp only [RepL] at r
  obtain ⟨v, w, e, r1, r2⟩ := r
  exact ⟨v, by rw [e, r2], r1.2⟩
theorem RepL.two {x y : Val} {vs : List V} (r : RepL K hid ρ H [x, y] vs) : ∃ v w, vs = [v, w] ∧ Rep K hid ρ H x v ∧ Rep K hid ρ H y w := by
  simp only [RepL] at r
  obtain ⟨v, w, e, r1, u, l, e2, r2, r3⟩ := r
  exact ⟨v, u, by rw [e, e2, r3], r1.2, r2.2⟩
theorem bools_rep : ∀ {xs : List Val} {vs : List V} {bs : List Bool}, RepL K hid ρ H xs vs → bools? xs = some bs → vs = bs.map V.bl
  | [], vs, bs, r, e => by
    simp only [RepL] at r
    simp only [bools?] at e
    cases e
    exact r
  | x :: xs, vs, bs, r, e => by
    simp only [RepL] at r
    obtain ⟨v, w, e1, r1, r2⟩ := r
    cases x <;> simp only [bools?] at e <;> try (cases e; done)
    split at e <;> cases e
    rename_i l hl
    rw [e1, r1.2.bl_, bools_rep r2 hl]
    rfl
theorem boolsOf_rep (so : SOk K hid ρ H S) {x : Val} {v : V} {bs : List Bool} (e : boolsV S x = some bs) (r : Rep K hid ρ H x v) : ∃ a, v = .ref a ∧ SqL K H a (bs.map V.bl) := by
  unfold boolsV at e
  split at e
  · rename_i xs hl
    obtain ⟨a, vs, ea, h1, r1⟩ := asList_rep so hl r
    exact ⟨a, ea, by rw [← bools_rep r1 e]; exact .inl h1⟩
  · cases e
theorem intsOf_rep (so : SOk K hid ρ H S) {x : Val} {v : V} {is : List Int} (e : intsV S x = some is) (r : Rep K hid ρ H x v) : ∃ a, v = .ref a ∧ SqL K H a (is.map V.int) := by
  unfold intsV at e
  split at e
  · rename_i xs hl
    obtain ⟨a, vs, ea, h1, r1⟩ := asList_rep so hl r
    exact ⟨a, ea, by rw [← ints_rep r1 e]; exact .inl h1⟩
  · cases e
end
theorem cr_len : CallR X (.builtin "len") (rBi X.K fun S xs => callBi S .len xs) := by
  intro pins s σ H vs us Q I r h
  obtain ⟨hid, ρ, S, xs, so, rx, h⟩ := h
  obtain ⟨z, e, hh⟩ := h.of
  clear h
  match xs, rx, e with
  | [x], rx, e =>
    obtain ⟨v, ev, r1⟩ := rx.one
    subst ev
    simp only [callBi, lenOf] at e
    split at e
    · split at e <;> cases e
      rename_i hz
      cases r1.str_
      refine call_len_str pins s σ H _ _ Q I r ⟨_, rfl, by rw [strOf_len, ← lim_eq]; exact hz, ?_⟩
      rw [strOf_len]
      exact fin_same so hh .of_int trivial
    · split at e <;> cases e
      rename_i ys hl
      obtain ⟨a, ws, ea, h1, r2⟩ := asSeq_rep so hl r1
      subst ea
      refine call_len_seq pins s σ H _ _ Q I r ⟨a, ws, rfl, h1, ?_⟩
      rw [r2.length]
      exact fin_same so hh .of_int trivial
theorem cr_allQ (hc : X.calm = true) : CallR X (.builtin "all") (rBi X.K fun S xs => callBi S .all xs) := by
  intro pins s σ H vs us Q I r h
  obtain ⟨hid, ρ, S, xs, so, rx, h⟩ := h
  obtain ⟨z, e, hh⟩ := h.of
  clear h
  match xs, rx, e with
  | [x], rx, e =>
    obtain ⟨v, ev, r1⟩ := rx.one
    subst ev
    simp only [callBi] at e
    split at e <;> cases e
    rename_i bs hb
    obtain ⟨a, ea, h1⟩ := boolsOf_rep so hb r1
    subst ea
    exact cr_all hc pins s σ H _ _ Q I r ⟨a, bs, rfl, h1, fin_same so hh .of_bl trivial⟩
theorem cr_anyQ (hc : X.calm = true) : CallR X (.builtin "any") (rBi X.K fun S xs => callBi S .any xs) := by
  intro pins s σ H vs us Q I r h
  obtain ⟨hid, ρ, S, xs, so, rx, h⟩ := h
  obtain ⟨z, e, hh⟩ := h.of
  clear h
  match xs, rx, e with
  | [x], rx, e =>
    obtain ⟨v, ev, r1⟩ := rx.one
    subst ev
    simp only [callBi] at e
    split at e <;> cases e
    rename_i bs hb
    obtain ⟨a, ea, h1⟩ := boolsOf_rep so hb r1
    subst ea
    exact cr_any hc pins s σ H _ _ Q I r ⟨a, bs, rfl, h1, fin_same so hh .of_bl trivial⟩
theorem cr_sumQ (hc : X.calm = true) : CallR X (.builtin "sum") (rBi X.K fun S xs => callBi S .sum xs) := by
  intro pins s σ H vs us Q I r h
  obtain ⟨hid, ρ, S, xs, so, rx, h⟩ := h
  obtain ⟨z, e, hh⟩ := h.of
  clear h
  match xs, rx, e with
  | [x], rx, e =>
    obtain ⟨v, ev, r1⟩ := rx.one
    subst ev
    simp only [callBi] at e
    split at e <;> cases e
    rename_i bs hb
    obtain ⟨a, ea, h1⟩ := intsOf_rep so hb r1
    subst ea
    exact cr_sum hc pins s σ H _ _ Q I r ⟨a, bs, rfl, h1, fin_same so hh .of_int trivial⟩
theorem cr_listQ : CallR X (.type "list") (rBi X.K fun S xs => callBi S .list xs) := by
  intro pins s σ H vs us Q I r h
  obtain ⟨hid, ρ, S, xs, so, rx, h⟩ := h
  obtain ⟨z, e, hh⟩ := h.of
  clear h
  match xs, rx, e with
  | [x], rx, e =>
    obtain ⟨v, ev, r1⟩ := rx.one
    subst ev
    simp only [callBi, listOf] at e
    split at e
    · rename_i ns
      cases e
      simp only [Rep] at r1
      obtain ⟨a, ea, hk⟩ := r1
      subst ea
      have r2 : RepL X.K hid ρ H (ns.map .int) (ns.map V.int) := by
        clear hk hh rx e
        induction ns with
        | nil => exact .nil
        | cons n ns ih => exact .cons ⟨rfl, .of_int⟩ ih
      exact call_list_of pins s σ H _ _ Q I r ⟨a, _, rfl, .inl (.inr hk), fun p hp => fin_new so hh hp (rep_newL so hp r2) (fresh_newL so hp (.of hp) r2)⟩
    split at e <;> cases e
    rename_i ys hl
    obtain ⟨a, ws, ea, h1, r2⟩ := asSeq_rep so hl r1
    subst ea
    exact call_list_of pins s σ H _ _ Q I r ⟨a, ws, rfl, h1, fun p hp => fin_new so hh hp (rep_newL so hp r2) (fresh_newL so hp (.of hp) r2)⟩
theorem cr_tupleQ : CallR X (.type "tuple") (rBi X.K fun S xs => callBi S .tuple xs) := by
  intro pins s σ H vs us Q I r h
  obtain ⟨hid, ρ, S, xs, so, rx, h⟩ := h
  obtain ⟨z, e, hh⟩ := h.of
  clear h
  match xs, rx, e with
  | [x], rx, e =>
    obtain ⟨v, ev, r1⟩ := rx.one
    subst ev
    simp only [callBi, tupleOf] at e
    split at e <;> cases e
    rename_i ys hl
    cases x with
    | tup zs =>
      simp only [asSeq, Option.some.injEq] at hl
      subst hl
      obtain ⟨a, ws, ea, h1, r2⟩ := r1.tup_
      subst ea
      exact call_tuple_of pins s σ H _ _ Q I r ⟨a, ws, rfl, .inr ⟨SqT.of h1, fin_same so hh (.of_tup h1 r2) trivial⟩⟩
    | _ =>
      obtain ⟨a, ws, ea, h1, r2⟩ := asList_rep so (by simpa only [asSeq] using hl) r1
      subst ea
      exact call_tuple_of pins s σ H _ _ Q I r ⟨a, ws, rfl, .inl ⟨.inl h1, fun p hp => fin_new so hh hp (rep_newT hp r2) trivial⟩⟩
theorem cr_min2Q (hc : X.calm = true) : CallR X (.builtin "min") (rBi X.K fun S xs => callBi S .min2 xs) := by
  intro pins s σ H vs us Q I r h
  obtain ⟨hid, ρ, S, xs, so, rx, h⟩ := h
  obtain ⟨z, e, hh⟩ := h.of
  clear h
  simp only [callBi] at e
  split at e <;> first
    | (rename_i hb; cases hb; done)
    | skip
  all_goals first
    | (cases e
       obtain ⟨v, w, ev, r1, r2⟩ := rx.two
       subst ev
       cases r1.int_; cases r2.int_
       exact call_min2 hc pins s σ H _ _ Q I r ⟨_, _, rfl, fin_same so hh .of_int trivial⟩)
    | (cases e; done)
theorem cr_max2Q (hc : X.calm = true) : CallR X (.builtin "max") (rBi X.K fun S xs => callBi S .max2 xs) := by
  intro pins s σ H vs us Q I r h
  obtain ⟨hid, ρ, S, xs, so, rx, h⟩ := h
  obtain ⟨z, e, hh⟩ := h.of
  clear h
  simp only [callBi] at e
  split at e <;> first
    | (rename_i hb; cases hb; done)
    | skip
  all_goals first
    | (cases e
       obtain ⟨v, w, ev, r1, r2⟩ := rx.two
       subst ev
       cases r1.int_; cases r2.int_
       exact call_max2 hc pins s σ H _ _ Q I r ⟨_, _, rfl, fin_same so hh .of_int trivial⟩)
    | (cases e; done)
theorem cr_absQ : CallR X (.builtin "abs") (rBi X.K fun S xs => callBi S .abs xs) := by
  intro pins s σ H vs us Q I r h
  obtain ⟨hid, ρ, S, xs, so, rx, h⟩ := h
  obtain ⟨z, e, hh⟩ := h.of
  clear h
  simp only [callBi] at e
  split at e <;> first
    | (rename_i hb; cases hb; done)
    | skip
  all_goals first
    | (cases e
       obtain ⟨v, ev, r1⟩ := rx.one
       subst ev
       cases r1.int_
       exact call_abs pins s σ H _ _ Q I r ⟨_, rfl, fin_same so hh .of_int trivial⟩)
    | (cases e; done)
theorem cr_intQ : CallR X (.type "int") (rBi X.K fun S xs => callBi S .int xs) := by
  intro pins s σ H vs us Q I r h
  obtain ⟨hid, ρ, S, xs, so, rx, h⟩ := h
  obtain ⟨z, e, hh⟩ := h.of
  clear h
  simp only [callBi] at e
  split at e <;> first
    | (rename_i hb; cases hb; done)
    | skip
  all_goals first
    | (cases e
       obtain ⟨v, ev, r1⟩ := rx.one
       subst ev
       cases r1.int_
       exact call_int1 pins s σ H _ _ Q I r (.inl ⟨_, rfl, fin_same so hh .of_int trivial⟩))
    | (cases e; done)
theorem figs_num : ∀ (f n : Nat) (acc : List Nat), n < 10 ^ f → 0 < f → figs f n acc = TL.numL n ++ acc
  | 0, _, _, _, h => by omega
  | 1, n, acc, h, _ => by
    have h1 : n < 10 := by simpa using h
    rw [figs, if_pos h1, TL.numL_lt h1]
    rfl
  | f + 2, n, acc, h, _ => by
    rw [figs]
    by_cases h1 : n < 10
    · rw [if_pos h1, TL.numL_lt h1]; rfl
    · have h2 : n / 10 < 10 ^ (f + 1) := by
        have e : 10 ^ (f + 2) = 10 ^ (f + 1) * 10 := Nat.pow_succ ..
        rw [e] at h
        exact Nat.div_lt_of_lt_mul (by rw [Nat.mul_comm]; exact h)
      rw [if_neg h1, figs_num (f + 1) (n / 10) _ h2 (by omega)]
      have h3 := TL.numL_step (n := n) (by omega)
      rw [h3, List.append_assoc]
      rfl
theorem cr_strQ : CallR X (.type "str") (rBi X.K fun S xs => callBi S .str xs) := by
  intro pins s σ H vs us Q I r h
  obtain ⟨hid, ρ, S, xs, so, rx, h⟩ := h
  obtain ⟨z, e, hh⟩ := h.of
  clear h
  match xs, rx, e with
  | [x], rx, e =>
    obtain ⟨v, ev, r1⟩ := rx.one
    subst ev
    simp only [callBi, strVal] at e
    split at e
    · rename_i n
      split at e <;> cases e
      rename_i hn
      cases r1.int_
      refine call_str_int pins s σ H _ _ Q I r ⟨n, rfl, ?_, ?_⟩
      · by_cases h0 : n.natAbs = 0
        · rw [h0]; decide
        · exact Nat.lt_trans ((Nat.log2_lt (k := 34) h0).mpr (by omega)) (by decide)
      · have e1 : Str.ofString (toString n) = strOf (figs 10 n.toNat []) := by
          rw [figs_num 10 n.toNat [] (by omega) (by decide), List.append_nil]
          have := SX.num_S n.toNat
          rw [show ((n.toNat : Nat) : Int) = n by omega] at this
          exact this
        have e2 : (V.str (toString n : String)) = V.str (strOf (figs 10 n.toNat [])) := by rw [← e1]
        rw [e2]
        exact fin_same so hh .of_str trivial
    · cases e
      cases r1.str_
      exact SkE.call_str_str pins s σ H _ _ Q I r ⟨_, rfl, fin_same so hh .of_str trivial⟩
    · cases e
end
end QE

set_option Elab.async false
set_option linter.all false
set_option maxRecDepth 10000
set_option maxHeartbeats 1000000
/-! isinstance, methods, cells, by values. -/
namespace QE
open PySem PySem.Spec PyProof.Rows L2
def tyStr : Ty → String
  | .int => "int"
  | .bool => "bool"
  | .str => "str"
  | .tuple => "tuple"
  | .list => "list"
theorem kit_tys : ∀ u t : Ty, kitB (tyStr u) (tyStr t) = some (decide (u = t) || (decide (u = .bool) && decide (t = .int))) := by
  intro u t
  cases u <;> cases t <;> decide +kernel
theorem kit_non : ∀ t : Ty, kitB "NoneType" (tyStr t) = some false := by
  intro t
  cases t <;> decide +kernel
section
variable {K : PySem.W.Frag} {hid ρ : List Addr} {H : Hp} {S : Sto}
theorem ty_rd {a : Addr} {vs : List V} (h : Rd H a (.lst vs)) : TyX K H (.ref a) (.type "list") := by
  rcases h with h | ⟨o, h⟩
  · exact .base (.lst h)
  · exact .base (.frz h)
theorem ty_rep (so : SOk K hid ρ H S) {x : Val} {v : V} {u : Ty} (e : tyName S x = some u) (r : Rep K hid ρ H x v) : TyX K H v (.type (tyStr u)) := by
  cases x <;> simp only [tyName] at e <;> try (cases e; done)
  · cases e; cases r.bl_; exact .base (.bl _)
  · cases e; cases r.int_; exact .base (.int _)
  · cases e; cases r.str_; exact .base (.str _)
  · cases e; obtain ⟨a, vs, ea, h1, _⟩ := r.tup_; subst ea; exact .base (.tup h1)
  · cases e
    simp only [Rep] at r
    obtain ⟨a, vs, ea, h1, _⟩ := r
    subst ea
    exact ty_rd h1.rd
  · split at e <;> cases e
    rename_i xs q
    simp only [Rep] at r
    obtain ⟨a, h1, h2⟩ := r
    obtain ⟨b, h3, vs, h4, _⟩ := so.ob _ _ q
    rw [h1] at h3; cases h3
    subst h2
    exact .base (.lst h4)
end
section
variable {X : Cx}
def rIs (K : PySem.W.Frag) (t : Ty) : List V → Hp → VK → Prop := fun vs H Q => ∃ hid ρ S x v b, vs = [v, .ty (tyStr t)] ∧ SOk K hid ρ H S ∧ Rep K hid ρ H x v ∧ isTy S t x = some b ∧ Q (.bl b) H
theorem cr_isQ {t : Ty} : CallR X (.builtin "isinstance") (rIs X.K t) := by
  intro pins s σ H vs us Q I r h
  obtain ⟨hid, ρ, S, x, v, b, ev, so, rx, e, q⟩ := h
  unfold isTy at e
  split at e
  · rename_i u hu
    cases e
    exact call_isi pins s σ H _ _ Q I r ⟨v, _, _, _, _, ev, .ty _, ty_rep so hu rx, kit_ty (kit_tys u t), q⟩
  · split at e <;> cases e
    rename_i hn
    cases x <;> simp only [isNon] at hn <;> try (cases hn; done)
    cases rx.non_
    exact call_isi pins s σ H _ _ Q I r ⟨_, _, _, _, _, ev, .ty _, .base .non, kit_ty (kit_non t), q⟩

/-! ### methods that change nothing -/
def rMe (K : PySem.W.Frag) (m : Me) : V → List V → Hp → VK → Prop := fun v vs H Q => ∃ hid ρ S x xs, SOk K hid ρ H S ∧ Rep K hid ρ H x v ∧ RepL K hid ρ H xs vs ∧ Out K hid ρ H (R.of (callMe S m x xs) S) (Gv K hid H Q)
theorem mt_countQ : MtR X "list.count" (rMe X.K .count) := by
  intro pins s σ H v vs vv us Q I rv rvs h
  obtain ⟨hid, ρ, S, x, xs, so, rx, rxs, h⟩ := h
  obtain ⟨z, e, hh⟩ := h.of
  clear h
  unfold callMe at e
  split at e
  · split at e <;> cases e
    rename_i is hi
    obtain ⟨a, ea, h1⟩ := intsOf_rep so hi rx
    obtain ⟨w, ew, r1⟩ := rxs.one
    subst ea ew
    cases r1.int_
    exact mt_lcount pins s σ H _ _ _ _ Q I rv rvs ⟨a, is, _, rfl, rfl, h1, fin_same so hh .of_int trivial⟩
  · rename_i hm
    cases hm
  · cases e
theorem pdL_get {x : Val} : ∀ {xs : List Val} {i : Nat}, xs[i]? = some x → (pdL xs)[i]? = some (pd x)
  | [], _, h => by simp at h
  | y :: ys, 0, h => by simp at h; subst h; simp [pdL]
  | y :: ys, i + 1, h => by simpa [pdL] using pdL_get (i := i) (by simpa using h)
theorem pdL_of {z : PyData} : ∀ {xs : List Val} {i : Nat}, (pdL xs)[i]? = some z → ∃ x, xs[i]? = some x ∧ z = pd x
  | [], _, h => by simp [pdL] at h
  | y :: ys, 0, h => by simp [pdL] at h; exact ⟨y, rfl, h.symm⟩
  | y :: ys, i + 1, h => by
    obtain ⟨x, h1, h2⟩ := pdL_of (xs := ys) (i := i) (by simpa [pdL] using h)
    exact ⟨x, by simpa using h1, h2⟩
theorem indexOf_ok {x : Val} : ∀ {xs : List Val} {n j : Nat}, indexOf x xs n = some j → n ≤ j ∧ ∃ y, xs[j - n]? = some y ∧ y.eqv x = true ∧ ∀ m z, m < j - n → xs[m]? = some z → z.eqv x = false
  | [], n, j, h => by simp [indexOf] at h
  | y :: ys, n, j, h => by
    unfold indexOf at h
    split at h
    · cases h
      rename_i hy
      refine ⟨Nat.le_refl _, y, by simp, hy, fun m z hm => by omega⟩
    · rename_i hy
      obtain ⟨h1, z, h2, h3, h4⟩ := indexOf_ok h
      refine ⟨by omega, z, ?_, h3, fun m w hm hw => ?_⟩
      · rw [show j - n = (j - (n + 1)) + 1 by omega]; simpa using h2
      · cases m with
        | zero => simp at hw; subst hw; simpa using hy
        | succ m => exact h4 m w (by omega) (by simpa using hw)
theorem chkL_get {x : Val} {d : Nat} : ∀ {xs : List Val} {i : Nat}, Val.chkL d xs = true → xs[i]? = some x → x.chk d = true
  | [], _, _, h => by simp at h
  | y :: ys, 0, h, e => by simp at e; subst e; simp only [Val.chkL, Bool.and_eq_true] at h; exact h.1
  | y :: ys, i + 1, h, e => by
    simp only [Val.chkL, Bool.and_eq_true] at h
    exact chkL_get (i := i) h.2 (by simpa using e)
theorem mt_indexQ (hu : X.A.units + 65 < cLine) : MtR X "list.index" (rMe X.K .index) := by
  intro pins s σ H v vs vv us Q I rv rvs h
  obtain ⟨hid, ρ, S, x, xs, so, rx, rxs, h⟩ := h
  obtain ⟨z, e, hh⟩ := h.of
  clear h
  unfold callMe at e
  split at e
  · rename_i hm
    cases hm
  · rename_i y _
    split at e
    · rename_i ys hl
      unfold idxOf at e
      split at e
      · rename_i hc
        simp only [Bool.and_eq_true] at hc
        split at e <;> cases e
        rename_i j hj
        obtain ⟨_, w, h2, h3, h4⟩ := indexOf_ok hj
        obtain ⟨a, ws, ea, h1, r1⟩ := asList_rep so hl rx
        obtain ⟨u, ew, r2⟩ := rxs.one
        subst ea ew
        rw [Nat.sub_zero] at h2 h4
        refine mt_indexD hu pins s σ H _ _ _ _ Q I rv rvs ⟨a, u, pd y, pdL ys, j, pd w, rfl, rfl, dp_list so hl rx hc.2, dp_of 64 y u hc.1 r2, (pdL_shaped hc.2).1, pd_shaped hc.1, pdL_get h2, ?_, fun m z' hm hz => ?_, fin_same so hh .of_int trivial⟩
        · rw [← pd_eqv w y 63 64 (chkL_get hc.2 h2) hc.1]; exact h3
        · obtain ⟨x', h5, rfl⟩ := pdL_of hz
          rw [← pd_eqv x' y 63 64 (chkL_get hc.2 h5) hc.1]
          exact h4 m x' hm h5
      · cases e
    · cases e
  · cases e
end

/-! ### cells -/
/-- what may be rewritten in a cell -/
def CellO : HO → Prop
  | .lst _ => True
  | .dK _ => True
  | .dT _ => True
  | _ => False
theorem Ext.write {ρ : List Addr} {H : Hp} {a : Addr} {u o : HO} (ha : a ∈ ρ) (hu : H a = some u) (hc : CellO u) (n : NT o := by intro _ z; cases z) : Ext ρ H ρ (upd H a o) := by
  refine ⟨⟨[], by simp, by simp⟩, fun b w e hb _ => ?_, fun b w e nw => ?_, fun b xs e => ?_, fun b w x e => ?_⟩
  · rw [upd_ne (fun z => hb (by rw [z]; exact ha))]; exact e
  · by_cases z : b = a
    · subst z; exact ⟨o, upd_same, n⟩
    · exact ⟨w, by rw [upd_ne z]; exact e, nw⟩
  · rw [upd_ne (fun z => by subst z; rw [hu] at e; cases e; exact hc)]; exact e
  · rw [upd_ne (fun z => by subst z; rw [hu] at e; cases e; exact hc)]; exact e
section
variable {K : PySem.W.Frag} {hid ρ : List Addr} {H : Hp} {S : Sto}
theorem SOk.write (s : SOk K hid ρ H S) {n : Nat} {a : Addr} (ha : ρ[n]? = some a) {u o : HO} (hu : H a = some u) (hc : CellO u) {ob : Ob} (new : ObRep K hid ρ (upd H a o) a ob) (no : NT o := by intro _ z; cases z) : SOk K hid ρ (upd H a o) (S.set n ob) := by
  have hm : a ∈ ρ := List.mem_of_getElem? ha
  have ex : Ext ρ H ρ (upd H a o) := Ext.write hm hu hc no
  refine ⟨by rw [List.length_set]; exact s.len, s.nd, s.apart, fun b hb => ?_, fun m w q => ?_⟩
  · obtain ⟨x, hx, n⟩ := s.hidd b hb
    exact ex.there0 b x hx n
  · by_cases hmn : n = m
    · subst hmn
      have hl : n < S.length := by
        have := (List.getElem?_eq_some_iff.mp ha).1
        rw [s.len] at this; exact this
      rw [List.getElem?_set_self hl] at q
      cases q
      exact ⟨a, ha, new⟩
    · rw [List.getElem?_set_ne hmn] at q
      obtain ⟨b, h1, h2⟩ := s.ob m w q
      refine ⟨b, h1, h2.mono ex (upd_ne ?_)⟩
      intro z
      subst z
      obtain ⟨l1, e1⟩ := List.getElem?_eq_some_iff.mp ha
      obtain ⟨l2, e2⟩ := List.getElem?_eq_some_iff.mp h1
      exact hmn ((List.getElem_inj s.nd).mp (e1.trans e2.symm))
/-- a cell's own object -/
theorem SOk.cell (s : SOk K hid ρ H S) {n : Nat} {v : V} {ob : Ob} (r : Rep K hid ρ H (.ref n) v) (q : S[n]? = some ob) : ∃ a, v = .ref a ∧ ρ[n]? = some a ∧ ObRep K hid ρ H a ob := by
  simp only [Rep] at r
  obtain ⟨a, h1, h2⟩ := r
  obtain ⟨b, h3, h4⟩ := s.ob n _ q
  rw [h1] at h3; cases h3
  exact ⟨a, h2, h1, h4⟩
end
section
variable {X : Cx}
def rApp (K : PySem.W.Frag) (b : Nat) : V → List V → Hp → VK → Prop := fun v vs H Q => ∃ hid ρ S x y w, vs = [w] ∧ SOk K hid ρ H S ∧ Rep K hid ρ H x v ∧ Rep K hid ρ H y w ∧ Out K hid ρ H (QE.append b S x y) (Gv K hid H Q)
theorem mt_appQ {b : Nat} : MtR X "list.append" (rApp X.K b) := by
  intro pins s σ H v vs vv us Q I rv rvs h
  obtain ⟨hid, ρ, S, x, y, w, ew, so, rx, ry, h⟩ := h
  subst ew
  unfold QE.append at h
  split at h
  · rename_i n
    split at h
    · rename_i xs hq
      split at h
      · rename_i hc
        simp only [Bool.and_eq_true, decide_eq_true_eq] at hc
        obtain ⟨a, ea, ha, ws, h4, r4⟩ := so.cell rx hq
        subst ea
        refine mt_append pins s σ H _ _ _ _ Q I rv rvs ⟨a, ws, w, rfl, rfl, h4, by rw [r4.length, ← lim_eq]; exact hc.1, ?_⟩
        have ex : Ext ρ H ρ (upd H a (.lst (ws ++ [w]))) := Ext.write (List.mem_of_getElem? ha) h4 trivial
        exact h ρ _ ex (so.write ha h4 trivial ⟨_, upd_same, (RepL.mono ex _ _ r4).app (RepL.cons ⟨st_settle y, (Rep.mono ex _ _ ry).settle⟩ .nil)⟩) _ .of_non trivial
      · exact h.elim
    · exact h.elim
  · exact h.elim
theorem iop_extR : OpR X (inplaceOp .Add) (fun x y H Q => ∃ l b xs zs, x = .ref l ∧ y = .ref b ∧ H l = some (.lst xs) ∧ Rd H b (.lst zs) ∧ xs.length + zs.length ≤ sizeLine ∧ Q (.ref l) (upd H l (.lst (xs ++ zs)))) := by
  intro pins s σ H x y v u Q I rx ry h
  obtain ⟨l, b, xs, zs, ex, ey, hH, hB, hz, q⟩ := h
  subst ex ey
  cases rx
  cases ry
  obtain ⟨z, its, n, r, hl, e⟩ := I.lstM hH
  obtain ⟨z2, its2, n2, r2, e2⟩ := hB.ok I.hok
  have hl2 := r2.length
  have hsz : its.toArray.size + its2.toArray.size ≤ sizeLine := by
    simp only [List.size_toArray]
    omega
  have hno : ¬ (!its.toArray.isEmpty && Builtin.List.listTooLong (its.toArray.size + its2.toArray.size)) = true := fun z => by
    rw [notLongL hsz, Bool.and_false] at z
    exact Bool.noConfusion z
  refine iadd_road ⟨_, e, rfl⟩ ⟨_, e2, rfl⟩ (call_meets PySem.F.slot_list_iadd ⟨_, e, rfl⟩ PySem.F.entry_list_iadd (PySem.F.args_list_iadd_2 _ _)
    (AutoSeq1.list___iadd___list_list_0 l its.toArray n b its2.toArray n2 hno (by simp only [List.size_toArray]; omega) (by omega)) ⟨e, e2, ?_⟩)
  exact ⟨.ref l, _, I.lset (its' := its ++ its2) (t' := s.toks) hH e (by simp) (r.append r2) (by rw [List.length_append]; omega), rfl, q⟩
def rExt (K : PySem.W.Frag) (b : Nat) : R2 := fun v w H Q => ∃ hid ρ S x y, SOk K hid ρ H S ∧ Rep K hid ρ H x v ∧ Rep K hid ρ H y w ∧ Out K hid ρ H (QE.extend b S x y) fun z _ ρ' H' => ∀ u, Rep K hid ρ' H' z u → Q u H'
theorem iop_Q {b : Nat} : OpR X (inplaceOp .Add) (rExt X.K b) := by
  intro pins s σ H v w vv ww Q I rv rw' h
  obtain ⟨hid, ρ, S, x, y, so, rx, ry, h⟩ := h
  unfold QE.extend at h
  split at h
  · rename_i n
    split at h
    · rename_i xs ys hq hl
      split at h
      · rename_i hc
        simp only [Bool.and_eq_true, decide_eq_true_eq] at hc
        obtain ⟨a, ea, ha, ws, h4, r4⟩ := so.cell rx hq
        obtain ⟨c, zs, ec, h5, r5⟩ := asList_rep so hl ry
        subst ea ec
        refine iop_extR pins s σ H _ _ _ _ Q I rv rw' ⟨a, c, ws, zs, rfl, rfl, h4, h5, by rw [r4.length, r5.length, ← lim_eq]; exact hc.1, ?_⟩
        have ex : Ext ρ H ρ (upd H a (.lst (ws ++ zs))) := Ext.write (List.mem_of_getElem? ha) h4 trivial
        exact h ρ _ ex (so.write ha h4 trivial ⟨_, upd_same, (RepL.mono ex _ _ r4).app (RepL.mono ex _ _ r5)⟩) _ (Rep.mono ex _ _ rx)
      · exact h.elim
    · exact h.elim
  · exact h.elim
/-- o[i] = v -/
def rSet (K : PySem.W.Frag) (b : Nat) : TSet := fun o i v H Q => ∃ hid ρ S x y z, SOk K hid ρ H S ∧ Rep K hid ρ H x o ∧ Rep K hid ρ H y i ∧ Rep K hid ρ H z v ∧ Out K hid ρ H (QE.setIx b S x y z) fun _ _ _ H' => Q H'
section
variable {K : PySem.W.Frag} {hid ρ : List Addr} {H : Hp} {k x : Val} {v : V}
theorem RepT.has (hk : k.isKey true = true) : ∀ {kvs : List (Val × Val)} {ws : List (List L2.Key × V)}, RepT K hid ρ H kvs ws → (ws.any fun kv => decide (kv.1 = keysOf k)) = dHas k kvs
  | [], ws, q => by
    simp only [RepT] at q
    subst q
    rfl
  | (j, u) :: kvs, ws, q => by
    simp only [RepT] at q
    obtain ⟨w, r, e, hj, r1, r2⟩ := q
    subst e
    simp only [dHas, List.any_cons]
    rw [RepT.has hk r2, keyEq_t hj hk]
theorem RepT.map (hk : k.isKey true = true) (r : x.st = true ∧ Rep K hid ρ H x v) : ∀ {kvs : List (Val × Val)} {ws : List (List L2.Key × V)}, RepT K hid ρ H kvs ws →
    RepT K hid ρ H (dMap k x kvs) (ws.map fun kv => if kv.1 = keysOf k then (kv.1, v) else kv)
  | [], ws, q => by
    simp only [RepT] at q
    subst q
    simp only [dMap, RepT, List.map_nil]
  | (j, u) :: kvs, ws, q => by
    simp only [RepT] at q
    obtain ⟨w, l, e, hj, r1, r2⟩ := q
    subst e
    have ih := RepT.map hk r r2
    simp only [dMap, List.map_cons, keyEq_t hj hk, decide_eq_true_eq]
    by_cases z : keysOf j = keysOf k
    · rw [if_pos z, if_pos z]
      simp only [RepT]
      exact ⟨v, _, rfl, hj, r, ih⟩
    · rw [if_neg z, if_neg z]
      simp only [RepT]
      exact ⟨w, _, rfl, hj, r1, ih⟩
theorem RepT.snoc (hk : k.isKey true = true) (r : x.st = true ∧ Rep K hid ρ H x v) : ∀ {kvs : List (Val × Val)} {ws : List (List L2.Key × V)}, RepT K hid ρ H kvs ws →
    RepT K hid ρ H (kvs ++ [(k, x)]) (ws ++ [(keysOf k, v)])
  | [], ws, q => by
    simp only [RepT] at q
    subst q
    simp only [List.nil_append, RepT]
    exact ⟨v, [], rfl, hk, r, by simp only [RepT]⟩
  | (j, u) :: kvs, ws, q => by
    simp only [RepT] at q
    obtain ⟨w, l, e, hj, r1, r2⟩ := q
    subst e
    simp only [List.cons_append, RepT]
    exact ⟨w, _, rfl, hj, r1, RepT.snoc hk r r2⟩
theorem RepT.put (hk : k.isKey true = true) (r : x.st = true ∧ Rep K hid ρ H x v) {kvs : List (Val × Val)} {ws : List (List L2.Key × V)} (q : RepT K hid ρ H kvs ws) : RepT K hid ρ H (dPut k x kvs) (putK ws (keysOf k) v) := by
  unfold dPut putK
  rw [RepT.has hk q]
  split
  · exact q.map hk r
  · exact q.snoc hk r
theorem RepT.length : ∀ {kvs : List (Val × Val)} {ws : List (List L2.Key × V)}, RepT K hid ρ H kvs ws → ws.length = kvs.length
  | [], ws, q => by simp only [RepT] at q; subst q; rfl
  | (j, u) :: kvs, ws, q => by
    simp only [RepT] at q
    obtain ⟨w, l, e, hj, r1, r2⟩ := q
    subst e
    rw [List.length_cons, List.length_cons, RepT.length r2]
theorem RepK.has (hk : k.flatKey = true) : ∀ {kvs : List (Val × Val)} {ws : List (L2.Key × V)}, RepK K hid ρ H kvs ws → (ws.any fun kv => decide (kv.1 = keyOf k)) = dHas k kvs
  | [], ws, q => by
    simp only [RepK] at q
    subst q
    rfl
  | (j, u) :: kvs, ws, q => by
    simp only [RepK] at q
    obtain ⟨w, r, e, hj, r1, r2⟩ := q
    subst e
    simp only [dHas, List.any_cons]
    rw [RepK.has hk r2, keyEq_f hj hk]
theorem RepK.map (hk : k.flatKey = true) (r : x.st = true ∧ Rep K hid ρ H x v) : ∀ {kvs : List (Val × Val)} {ws : List (L2.Key × V)}, RepK K hid ρ H kvs ws →
    RepK K hid ρ H (dMap k x kvs) (ws.map fun kv => if kv.1 = keyOf k then (kv.1, v) else kv)
  | [], ws, q => by
    simp only [RepK] at q
    subst q
    simp only [dMap, RepK, List.map_nil]
  | (j, u) :: kvs, ws, q => by
    simp only [RepK] at q
    obtain ⟨w, l, e, hj, r1, r2⟩ := q
    subst e
    have ih := RepK.map hk r r2
    simp only [dMap, List.map_cons, keyEq_f hj hk, decide_eq_true_eq]
    by_cases z : keyOf j = keyOf k
    · rw [if_pos z, if_pos z]
      simp only [RepK]
      exact ⟨v, _, rfl, hj, r, ih⟩
    · rw [if_neg z, if_neg z]
      simp only [RepK]
      exact ⟨w, _, rfl, hj, r1, ih⟩
theorem RepK.snoc (hk : k.flatKey = true) (r : x.st = true ∧ Rep K hid ρ H x v) : ∀ {kvs : List (Val × Val)} {ws : List (L2.Key × V)}, RepK K hid ρ H kvs ws →
    RepK K hid ρ H (kvs ++ [(k, x)]) (ws ++ [(keyOf k, v)])
  | [], ws, q => by
    simp only [RepK] at q
    subst q
    simp only [List.nil_append, RepK]
    exact ⟨v, [], rfl, hk, r, by simp only [RepK]⟩
  | (j, u) :: kvs, ws, q => by
    simp only [RepK] at q
    obtain ⟨w, l, e, hj, r1, r2⟩ := q
    subst e
    simp only [List.cons_append, RepK]
    exact ⟨w, _, rfl, hj, r1, RepK.snoc hk r r2⟩
theorem RepK.put (hk : k.flatKey = true) (r : x.st = true ∧ Rep K hid ρ H x v) {kvs : List (Val × Val)} {ws : List (L2.Key × V)} (q : RepK K hid ρ H kvs ws) : RepK K hid ρ H (dPut k x kvs) (putK ws (keyOf k) v) := by
  unfold dPut putK
  rw [RepK.has hk q]
  split
  · exact q.map hk r
  · exact q.snoc hk r
theorem RepK.length : ∀ {kvs : List (Val × Val)} {ws : List (L2.Key × V)}, RepK K hid ρ H kvs ws → ws.length = kvs.length
  | [], ws, q => by simp only [RepK] at q; subst q; rfl
  | (j, u) :: kvs, ws, q => by
    simp only [RepK] at q
    obtain ⟨w, l, e, hj, r1, r2⟩ := q
    subst e
    rw [List.length_cons, List.length_cons, RepK.length r2]
end
theorem set_Q {b : Nat} (hu : X.A.units + 1 < cLine) : PSet X (rSet X.K b) := by
  intro pins s σ H o i v ov iv u Q I ro ri rv h
  obtain ⟨hid, ρ, S, x, y, z, so, rx, ry, rz, h⟩ := h
  unfold QE.setIx at h
  split at h
  · rename_i n
    split at h
    · rename_i xs hq
      split at h
      · rename_i k
        split at h
        · rename_i j hj
          split at h
          · obtain ⟨a, ea, ha, ws, h4, r4⟩ := so.cell rx hq
            subst ea
            cases ry.int_
            refine set_list pins s σ H _ _ _ _ _ _ Q I ro ri rv ⟨a, ws, k, j, rfl, rfl, h4, by rw [r4.length]; exact hj, ?_⟩
            have ex : Ext ρ H ρ (upd H a (.lst (ws.set j v))) := Ext.write (List.mem_of_getElem? ha) h4 trivial
            exact h ρ _ ex (so.write ha h4 trivial ⟨_, upd_same, RepL.set ⟨st_settle z, (Rep.mono ex _ _ rz).settle⟩ j (RepL.mono ex _ _ r4)⟩)
          · exact h.elim
        · exact h.elim
      · exact h.elim
    · rename_i t kvs hq
      split at h
      · rename_i hc
        simp only [Bool.and_eq_true, decide_eq_true_eq] at hc
        obtain ⟨⟨hk, hl⟩, _⟩ := hc
        obtain ⟨a, ea, ha, h4⟩ := so.cell rx hq
        subst ea
        have hm := List.mem_of_getElem? ha
        cases ro
        cases t with
        | true =>
          obtain ⟨ws, h4, r4⟩ := h4
          obtain ⟨ks, e2, h3⟩ := isKey_true hk
          subst e2
          obtain ⟨c, us, e3, h5, r5⟩ := ry.tup_
          have h6 := flatKeys_rep h3 r5
          subst e3 h6
          have g : DPut H a (.ref c) v (upd H a (.dT (putK ws (ks.map keyOf) v))) := DPut.t h4 h5 (by rw [r4.length, ← lim_eq]; exact hl)
          refine d_setItem hu I g ri rv fun s' I' => ⟨_, I', ?_⟩
          have ex : Ext ρ H ρ (upd H a (.dT (putK ws (ks.map keyOf) v))) := Ext.write hm h4 trivial
          exact h ρ _ ex (so.write ha h4 trivial ⟨_, upd_same, RepT.put hk ⟨st_settle z, (Rep.mono ex _ _ rz).settle⟩ (RepT.mono ex _ _ r4)⟩)
        | false =>
          obtain ⟨ws, h4, r4⟩ := h4
          have h3 : y.flatKey = true := by simpa [Val.isKey] using hk
          have h6 := flatKey_rep h3 ry
          subst h6
          have g : DPut H a (kV (keyOf y)) v (upd H a (.dK (putK ws (keyOf y) v))) := DPut.k h4 (by rw [r4.length, ← lim_eq]; exact hl)
          refine d_setItem hu I g ri rv fun s' I' => ⟨_, I', ?_⟩
          have ex : Ext ρ H ρ (upd H a (.dK (putK ws (keyOf y) v))) := Ext.write hm h4 trivial
          exact h ρ _ ex (so.write ha h4 trivial ⟨_, upd_same, RepK.put h3 ⟨st_settle z, (Rep.mono ex _ _ rz).settle⟩ (RepK.mono ex _ _ r4)⟩)
      · exact h.elim
    · exact h.elim
  · exact h.elim
end
end QE

set_option Elab.async false
set_option linter.all false
set_option maxRecDepth 10000
set_option maxHeartbeats 1000000
/-! Expressions: each construct's rule, by the rules of its parts. -/
namespace QE
open PySem PySem.Spec PyProof.Rows L2
section
variable {X : Cx}
theorem PE.imp {e : Expr} {t t' : TE} (h : PE X e t) (k : ∀ σ H Q, t' σ H Q → t σ H Q) : PE X e t' := ⟨fun pins s σ H Q I q => h.run pins s σ H Q I (k σ H Q q)⟩
theorem PT.imp {e : Expr} {t t' : TT} (h : PT X e t) (k : ∀ σ H Q, t' σ H Q → t σ H Q) : PT X e t' := ⟨fun pins s σ H Q I q => h.run pins s σ H Q I (k σ H Q q)⟩
theorem PW.imp {e : Expr} {t t' : TT} (h : PW X e t) (k : ∀ σ H Q, t' σ H Q → t σ H Q) : PW X e t' := ⟨fun wh pins s σ H Q I q => h.run wh pins s σ H Q I (k σ H Q q)⟩
theorem PTs.imp {e : List Expr} {t t' : TT} (h : PTs X e t) (k : ∀ σ H Q, t' σ H Q → t σ H Q) : PTs X e t' := ⟨fun pins s σ H Q I q => h.run pins s σ H Q I (k σ H Q q)⟩
theorem PA.imp {e : List Expr} {t t' : TA} (h : PA X e t) (k : ∀ σ H Q, t' σ H Q → t σ H Q) : PA X e t' := ⟨fun pos pins s σ H Q I q => h.run pos pins s σ H Q I (k σ H Q q)⟩
theorem PO.imp {e : Option Expr} {t t' : TO} (h : PO X e t) (k : ∀ σ H Q, t' σ H Q → t σ H Q) : PO X e t' := ⟨fun pins s σ H Q I q => h.run pins s σ H Q I (k σ H Q q)⟩
theorem PG.imp {e : Expr} {t t' : TG} (h : PG X e t) (k : ∀ v σ H Q, t' v σ H Q → t v σ H Q) : PG X e t' := ⟨fun pins s σ H v u Q I r q => h.run pins s σ H v u Q I r (k v σ H Q q)⟩
theorem PI.imp {tg e : Expr} {t t' : TI} (h : PI X tg e t) (k : ∀ σ H Q, t' σ H Q → t σ H Q) : PI X tg e t' := ⟨fun pins s σ H Q I q => h.run pins s σ H Q I (k σ H Q q)⟩
theorem PS.imp {e : Stmt} {t t' : TS} (h : PS X e t) (k : ∀ D σ H, t' D σ H → t D σ H) : PS X e t' := ⟨fun pins s σ H D I q => h.run pins s σ H D I (k D σ H q)⟩
theorem PSs.imp {e : List Stmt} {t t' : TS} (h : PSs X e t) (k : ∀ D σ H, t' D σ H → t D σ H) : PSs X e t' := ⟨fun pins s σ H D I q => h.run pins s σ H D I (k D σ H q)⟩

/-! ### what the shapes of expressions decide -/
def plainE : Expr → Bool
  | .Starred _ _ => false
  | _ => true
theorem star_cons {e : Expr} (h : plainE e = true) (es : List Expr) (env : PySem.Env) : starEach (e :: es) env = (false, eval e env) :: starEach es env := by
  cases e <;> first | rfl | cases h
theorem star_none (pos : Pos) (env : PySem.Env) : ∀ es : List Expr, es.all plainE = true → (backTo pos (starEach es env)).any (·.1) = false
  | [], _ => rfl
  | e :: es, h => by
    simp only [List.all_cons, Bool.and_eq_true] at h
    rw [star_cons h.1]
    show (false || (backTo pos (starEach es env)).any (·.1)) = false
    rw [star_none pos env es h.2]
    rfl
theorem star_len (env : PySem.Env) : ∀ es : List Expr, (starEach es env).length = es.length
  | [] => rfl
  | e :: es => by
    cases e <;> (show (starEach es env).length + 1 = es.length + 1; rw [star_len env es])
def noSlice : Expr → Bool
  | .Slice _ _ _ _ => false
  | _ => true
theorem plain_ix {b : Expr} (h : noSlice b = true) : PlainIx b := by
  cases b <;> first | exact fun _ _ => rfl | cases h
def noSetE : Expr → Bool
  | .Set _ _ _ => false
  | _ => true
theorem no_behind {op : CmpOp} {b : Expr} (h : noSetE b = true) : behindInMarks op b = false := by
  cases b <;> first | rfl | cases h
theorem no_fold {it : Expr} (h : noSetE it = true) (env : PySem.Env) : ∀ x, foldedSetIterable it env x = pure x := by
  intro x
  cases it <;> first | rfl | cases h
/-- an expression whose test is its value's -/
def plainT : Expr → Bool
  | .Name _ _ => true
  | .Call _ _ _ _ => true
  | .Subscript _ _ _ => true
  | .Constant _ _ _ => true
  | _ => false
theorem plain_test {e : Expr} (h : plainT e = true) (env : PySem.Env) : ∀ whole, isTrue e env whole = (do let v ← whole; standAt e.pos; holding [v] (truthy v)) := by
  intro w
  cases e <;> first | rfl | cases h
/-- a receiver of a method -/
def plainO : Expr → Bool
  | .Call _ [] _ _ => false
  | _ => true
theorem plain_base {o : Expr} (h : plainO o = true) (n : Str) (env : PySem.Env) : attributeBase o n env (eval o env) = eval o env := by
  cases o with
  | Call f as ks p =>
    cases as with
    | nil => cases h
    | cons a as => cases f <;> rfl
  | _ => rfl

/-! ### names, constants -/
variable {c : Ctx} {pos : Pos}
theorem s_var {i : Nat} {x : Str} (hN : X.N[i]? = some x) (hv : Vis X.env.scope x) (hd : (x == ("__debug__" : Str)) = false) (hcd : (x == ("__classdict__" : Str)) = false) : PE X (.Name x pos) (tE X.K c (.var i)) := by
  refine PE.imp (pe_var hN hv hd hcd) fun σ H Q h => ?_
  obtain ⟨hid, ρ, env, S, he, hs, h⟩ := h
  simp only [evalE] at h
  split at h
  · rename_i v q
    obtain ⟨w, h1, st, r⟩ := he.at_ i v q
    exact ⟨w, h1, h.pure hs w r (.of_st st)⟩
  · exact h.elim
def constOk : Val → Const → Bool
  | .non, .none => true
  | .bl a, .bool b => a == b
  | .int a, .int b => a == b
  | .str a, .str b => decide (strOf a = b)
  | _, _ => false
theorem s_lit {v : Val} {k : Const} {j : Nat} (h : constOk v k = true) : PE X (.Constant k j pos) (tE X.K c (.lit v)) := by
  have fin : ∀ {σ H Q} {w : V}, (∀ hid ρ, Rep X.K hid ρ H v w) → v.st = true → tE X.K c (.lit v) σ H Q → Q w H := fun {σ H Q w} r st h => by
    obtain ⟨hid, ρ, env, S, he, hs, h⟩ := h
    simp only [evalE] at h
    exact h.pure hs w (r hid ρ) (.of_st st)
  cases v <;> cases k <;> simp only [constOk] at h <;> try (cases h; done)
  · exact PE.imp pe_non fun σ H Q q => fin (fun _ _ => .of_non) rfl q
  · rename_i a b
    cases (beq_iff_eq.mp h)
    exact PE.imp pe_bl fun σ H Q q => fin (fun _ _ => .of_bl) rfl q
  · rename_i a b
    cases (beq_iff_eq.mp h)
    exact PE.imp pe_int fun σ H Q q => fin (fun _ _ => .of_int) rfl q
  · rename_i a b
    have e := of_decide_eq_true h
    subst e
    exact PE.imp pe_str fun σ H Q q => fin (fun _ _ => .of_str) rfl q
/-- a module's constant: an int, a text -/
def flatIs : Val → Value → Prop
  | .int i, u => ∃ t, u = .int i t
  | .str s, u => ∃ t, u = .str (strOf s) t
  | _, _ => False
theorem s_con {i : Nat} {x : Str} {u : Value} (hg : Gl X x) (hm : X.mg x = some u) (hu : ∀ v, c.con i = some v → flatIs v u) (hd : (x == ("__debug__" : Str)) = false) : PE X (.Name x pos) (tE X.K c (.con i)) := by
  refine ⟨fun pins s σ H Q I h => ?_⟩
  obtain ⟨hid, ρ, env, S, he, hs, h⟩ := h
  simp only [evalE] at h
  obtain ⟨v, e, h⟩ := h.of
  have q := hu v e
  cases v <;> simp only [flatIs] at q
  · rename_i k
    exact (pe_glob (v := .int k) hg hm q hd).run pins s σ H Q I (fin_same hs h .of_int trivial)
  · rename_i k
    exact (pe_glob (v := .str (strOf k)) hg hm q hd).run pins s σ H Q I (fin_same hs h .of_str trivial)

/-! ### two and three parts -/
variable {xa xb xc : Expr} {ea eb ec : E}
/-- two parts and a rule over their values -/
theorem two_parts {e : E} {r : R2} {σ : L2.St} {H : Hp} {Q : VK} {f : Val → Val → Sto → R Val} (he : ∀ env S, evalE c e env S = (evalE c ea env S).bind fun x S1 => (evalE c eb env S1).bind fun y S2 => f x y S2)
    (h : tE X.K c e σ H Q) (k : ∀ hid ρ H0 ρ' H' S x y v w, Ext ρ H0 ρ' H' → SOk X.K hid ρ' H' S → Rep X.K hid ρ' H' x v → Rep X.K hid ρ' H' y w → Out X.K hid ρ' H' (f x y S) (fun z S2 ρ2 H2 => ∀ u, Rep X.K hid ρ2 H2 z u → Fresh X.K hid ρ2 H2 S2 H' z u → Q u H2) → r v w H' Q) :
    tOp r (tE X.K c ea) (tE X.K c eb) σ H Q := by
  obtain ⟨hid, ρ, env, S, hE, hs, h⟩ := h
  rw [he] at h
  refine tE.of hE hs h fun x S1 ρ1 H1 v e1 s1 r1 f1 h1 => tE.of (hE.mono e1) s1 h1 fun y S2 ρ2 H2 w e2 s2 r2 f2 h2 => ?_
  exact k hid ρ H ρ2 H2 S2 x y v w (e1.trans e2) s2 (Rep.mono e2 x v r1) r2 (h2.mono fun z S3 ρ3 H3 e3 q u ru fu => q u ru (fu.anti (e1.trans e2)))
def opOf : BOp → Operator
  | .add => .Add
  | .sub => .Sub
  | .mul => .Mult
  | .fdiv => .FloorDiv
  | .mod => .Mod
  | .pow => .Pow
theorem op_all (op : BOp) : OpR X (binaryOp (opOf op)) (rOf X.K fun S => QE.bin S op) := by
  cases op
  · exact op_addQ
  · exact op_subQ
  · exact op_mulQ
  · exact op_fdivQ
  · exact op_modQ
  · exact op_powQ
theorem s_bin {op : BOp} (ha : PE X xa (tE X.K c ea)) (hb : PE X xb (tE X.K c eb)) : PE X (.BinOp xa (opOf op) xb pos) (tE X.K c (.bin op ea eb)) := by
  refine PE.imp (pe_op (op_all op) ha hb) fun σ H Q h => ?_
  exact two_parts (f := fun x y S => R.of (QE.bin S op x y) S) (fun env S => by simp only [evalE]) h fun hid ρ H0 ρ' H' S x y v w _ s r1 r2 o => ⟨hid, ρ', S, x, y, s, r1, r2, o⟩
theorem s_neg (ha : PE X xa (tE X.K c ea)) : PE X (.UnaryOp .USub xa pos) (tE X.K c (.neg ea)) := by
  refine PE.imp (pe_un un_neg ha) fun σ H Q h => ?_
  obtain ⟨hid, ρ, env, S, hE, hs, h⟩ := h
  simp only [evalE] at h
  refine tE.of hE hs h fun x S1 ρ1 H1 v e1 s1 r1 f1 h1 => ?_
  obtain ⟨i, S2, q, hk⟩ := h1.bind
  obtain ⟨hx, hS⟩ := asInt_ok q
  subst hx hS
  cases r1.int_
  exact ⟨i, rfl, (hk ρ1 H1 (Ext.refl _ _)).pure s1 _ .of_int trivial⟩
def cmpOf : COp → CmpOp
  | .eq => .Eq
  | .ne => .NotEq
  | .lt => .Lt
  | .le => .LtE
  | .gt => .Gt
  | .ge => .GtE
  | .in_ => .In
  | .nin => .NotIn
  | .is_ => .Is
  | .isn => .IsNot
theorem cmp_all (hu : X.A.units + 65 < cLine) (op : COp) : OpR X (compareOp (cmpOf op)) (rCo X.K fun S => QE.cmp S op) := by
  cases op
  · exact op_eqQ (by omega)
  · exact op_neQ (by omega)
  · exact op_ltQ (by omega)
  · exact op_leQ
  · exact op_gtQ
  · exact op_geQ
  · exact op_inQ hu
  · exact op_ninQ hu
  · exact op_isQ
  · exact op_isnQ
theorem s_cmp {op : COp} (hu : X.A.units + 65 < cLine) (ha : PE X xa (tE X.K c ea)) (hb : PE X xb (tE X.K c eb)) (hm : noSetE xb = true) : PE X (.Compare xa [cmpOf op] [xb] pos) (tE X.K c (.cmp op ea eb)) := by
  refine PE.imp (pe_cmpR (cmp_all hu op) ha hb (no_behind hm)) fun σ H Q h => ?_
  refine two_parts (f := fun x y S => (R.of (QE.cmp S op x y) S).bind fun r S3 => .ok (.bl r) S3) (fun env S => by simp only [evalE]) h fun hid ρ H0 ρ' H' S x y v w _ s r1 r2 o => ?_
  obtain ⟨b, S3, q, hk⟩ := o.bind
  cases hc : QE.cmp S op x y with
  | none => rw [hc] at q; cases q
  | some b' =>
    rw [hc] at q
    cases q
    exact ⟨hid, ρ', S, x, y, b, s, r1, r2, hc, (hk ρ' H' (Ext.refl _ _)).pure s _ .of_bl trivial⟩
theorem t_cmp {op : COp} (hu : X.A.units + 65 < cLine) (ha : PE X xa (tE X.K c ea)) (hb : PE X xb (tE X.K c eb)) (hm : noSetE xb = true) : PT X (.Compare xa [cmpOf op] [xb] pos) (tT X.K c (.cmp op ea eb)) := by
  refine PT.imp (pt_cmpR (cmp_all hu op) ha hb (no_behind hm)) fun σ H Q h => ?_
  obtain ⟨hid, ρ, env, S, hE, hs, h⟩ := h
  have h' : tE X.K c (.cmp op ea eb) σ H (fun x H' => ∃ k, x = .bl k ∧ Q k H') := by
    refine ⟨hid, ρ, env, S, hE, hs, h.mono fun z S2 ρ2 H2 e q u ru fu => ?_⟩
    obtain ⟨b, ez, q⟩ := q
    subst ez
    exact ⟨b, ru.bl_, q⟩
  refine two_parts (f := fun x y S => (R.of (QE.cmp S op x y) S).bind fun r S3 => .ok (.bl r) S3) (fun env S => by simp only [evalE]) h' fun hid ρ H0 ρ' H' S x y v w _ s r1 r2 o => ?_
  obtain ⟨b, S3, q, hk⟩ := o.bind
  cases hc : QE.cmp S op x y with
  | none => rw [hc] at q; cases q
  | some b' =>
    rw [hc] at q
    cases q
    exact ⟨hid, ρ', S, x, y, b, s, r1, r2, hc, (hk ρ' H' (Ext.refl _ _)).pure s _ .of_bl trivial⟩
theorem chain_core {o1 o2 : COp} {σ : L2.St} {H : Hp} {Q : VK} (h : tE X.K c (.chain o1 o2 ea eb ec) σ H Q) :
    tChain (rCo X.K fun S => QE.cmp S o1) (rCo X.K fun S => QE.cmp S o2) (tE X.K c ea) (tE X.K c eb) (tE X.K c ec) σ H Q := by
  obtain ⟨hid, ρ, env, S, hE, hs, h⟩ := h
  simp only [evalE] at h
  refine tE.of hE hs h fun x S1 ρ1 H1 v e1 s1 r1 f1 h1 => tE.of (hE.mono e1) s1 h1 fun y S2 ρ2 H2 w e2 s2 r2 f2 h2 => ?_
  obtain ⟨b, S3, q, hk⟩ := h2.bind
  cases hc : QE.cmp S2 o1 x y with
  | none => rw [hc] at q; cases q
  | some b' =>
    rw [hc] at q
    cases q
    have h3 := hk ρ2 H2 (Ext.refl _ _)
    refine ⟨hid, ρ2, S2, x, y, b, s2, Rep.mono e2 x v r1, r2, hc, b, rfl, ?_⟩
    cases b with
    | false =>
      simp only [Bool.false_eq_true, if_false] at h3 ⊢
      exact h3.pure s2 _ .of_bl trivial
    | true =>
      simp only [if_true] at h3 ⊢
      refine tE.of ((hE.mono e1).mono e2) s2 h3 fun z S4 ρ4 H4 u e4 s4 r4 f4 h4 => ?_
      obtain ⟨b2, S5, q2, hk2⟩ := h4.bind
      cases hc2 : QE.cmp S4 o2 y z with
      | none => rw [hc2] at q2; cases q2
      | some b3 =>
        rw [hc2] at q2
        cases q2
        exact ⟨hid, ρ4, S4, y, z, b2, s4, Rep.mono e4 y w r2, r4, hc2, (hk2 ρ4 H4 (Ext.refl _ _)).pure s4 _ .of_bl trivial⟩
theorem no_last {o1 o2 : CmpOp} {b d : Expr} (h : noSetE d = true) : lastMarks [o1, o2] [b, d] = false := by
  show behindInMarks o2 d = false
  exact no_behind h
theorem s_chain {o1 o2 : COp} (hu : X.A.units + 65 < cLine) (ha : PE X xa (tE X.K c ea)) (hb : PE X xb (tE X.K c eb)) (hc : PE X xc (tE X.K c ec)) (hm : noSetE xc = true) : PE X (.Compare xa [cmpOf o1, cmpOf o2] [xb, xc] pos) (tE X.K c (.chain o1 o2 ea eb ec)) :=
  PE.imp (pe_chain (cmp_all hu o1) (cmp_all hu o2) ha hb hc (no_last hm)) fun σ H Q h => chain_core h
theorem tE_of_tT {e : E} {σ : L2.St} {H : Hp} {Q : Bool → Hp → Prop} (h : tT X.K c e σ H Q) : tE X.K c e σ H fun x H' => ∃ k, x = .bl k ∧ Q k H' := by
  obtain ⟨hid, ρ, env, S, hE, hs, h⟩ := h
  refine ⟨hid, ρ, env, S, hE, hs, h.mono fun z S2 ρ2 H2 e q u ru fu => ?_⟩
  obtain ⟨b, ez, q⟩ := q
  subst ez
  exact ⟨b, ru.bl_, q⟩
theorem t_chain {o1 o2 : COp} (hu : X.A.units + 65 < cLine) (ha : PE X xa (tE X.K c ea)) (hb : PE X xb (tE X.K c eb)) (hc : PE X xc (tE X.K c ec)) (hm : noSetE xc = true) : PT X (.Compare xa [cmpOf o1, cmpOf o2] [xb, xc] pos) (tT X.K c (.chain o1 o2 ea eb ec)) :=
  PT.imp (pt_chain (cmp_all hu o1) (cmp_all hu o2) ha hb hc (no_last hm)) fun σ H Q h => chain_core (tE_of_tT h)
/-- a test by its value -/
theorem t_val {e : E} (h : PE X xa (tE X.K c e)) (hp : plainT xa = true) : PT X xa (tT X.K c e) :=
  PT.imp (pt_val h (plain_test hp X.env)) fun σ H Q q => tE_of_tT q

/-! ### not, if -/
theorem s_not (ha : PE X xa (tE X.K c ea)) : PE X (.UnaryOp .Not xa pos) (tE X.K c (.not ea)) := by
  refine PE.imp (pe_not ha) fun σ H Q h => ?_
  obtain ⟨hid, ρ, env, S, hE, hs, h⟩ := h
  simp only [evalE] at h
  refine tE.of hE hs h fun x S1 ρ1 H1 v e1 s1 r1 f1 h1 => ?_
  obtain ⟨b, S2, q, hk⟩ := h1.bind
  obtain ⟨hx, hS⟩ := asBl_ok q
  subst hx hS
  exact ⟨b, r1.bl_, (hk ρ1 H1 (Ext.refl _ _)).pure s1 _ .of_bl trivial⟩
theorem t_not (ha : PT X xa (tT X.K c ea)) : PT X (.UnaryOp .Not xa pos) (tT X.K c (.not ea)) := by
  refine PT.imp (pt_not ha) fun σ H Q h => ?_
  obtain ⟨hid, ρ, env, S, hE, hs, h⟩ := h
  simp only [evalE] at h
  refine tT.of hE hs h fun b S1 ρ1 H1 e1 s1 h1 => ?_
  obtain ⟨b', eb, q⟩ := h1.pure s1
  cases eb
  exact q
theorem s_ite (hc : PT X xc (tT X.K c ec)) (ha : PE X xa (tE X.K c ea)) (hb : PE X xb (tE X.K c eb)) : PE X (.IfExp xc xa xb pos) (tE X.K c (.ite ec ea eb)) := by
  refine PE.imp (pe_ifExp hc ha hb) fun σ H Q h => ?_
  obtain ⟨hid, ρ, env, S, hE, hs, h⟩ := h
  simp only [evalE] at h
  refine tT.of hE hs h fun b S1 ρ1 H1 e1 s1 h1 => ?_
  cases b with
  | true => exact ⟨hid, ρ1, env, S1, hE.mono e1, s1, h1.mono fun z S2 ρ2 H2 e q u ru fu => q u ru (fu.anti e1)⟩
  | false => exact ⟨hid, ρ1, env, S1, hE.mono e1, s1, h1.mono fun z S2 ρ2 H2 e q u ru fu => q u ru (fu.anti e1)⟩

/-! ### argument lists -/
theorem a_nil : PA X [] (tEs X.K c []) := by
  refine PA.imp pa_nil fun σ H Q h => ?_
  obtain ⟨hid, ρ, env, S, hE, hs, h⟩ := h
  simp only [evalEs] at h
  exact h.pure hs [] .nil
theorem a_cons {xs : List Expr} {es : List E} (ha : PE X xa (tE X.K c ea)) (hr : PA X xs (tEs X.K c es)) (hp : plainE xa = true) : PA X (xa :: xs) (tEs X.K c (ea :: es)) := by
  refine PA.imp (pa_cons ha hr (star_cons hp xs X.env)) fun σ H Q h => ?_
  obtain ⟨hid, ρ, env, S, hE, hs, h⟩ := h
  simp only [evalEs] at h
  refine tE.of hE hs h fun x S1 ρ1 H1 v e1 s1 r1 f1 h1 => tEs.of (hE.mono e1) s1 h1 fun ys S2 ρ2 H2 ws e2 s2 r2 h2 => ?_
  exact h2.pure s2 _ (RepL.cons ⟨st_settle x, (Rep.mono e2 x v r1).settle⟩ r2)
theorem s_tup {k : Nat} {xs : List Expr} {es : List E} (h : PA X xs (tEs X.K c es)) : PE X (.Tuple xs k pos) (tE X.K c (.tup es)) := by
  refine PE.imp (pe_tup h) fun σ H Q h => ?_
  obtain ⟨hid, ρ, env, S, hE, hs, h⟩ := h
  simp only [evalE] at h
  refine tEs.of hE hs h fun xs S1 ρ1 H1 vs e1 s1 r1 h1 => ?_
  split at h1
  · rename_i hz
    refine ⟨by rw [r1.length, ← lim_eq]; exact hz, fun p hp => ?_⟩
    exact h1 ρ1 _ (Ext.new hp) (s1.new hp) _ (rep_newT hp r1) trivial
  · exact h1.elim
theorem s_list {xs : List Expr} {es : List E} (h : PA X xs (tEs X.K c es)) : PE X (.List xs pos) (tE X.K c (.list es)) := by
  refine PE.imp (pe_lst h) fun σ H Q h => ?_
  obtain ⟨hid, ρ, env, S, hE, hs, h⟩ := h
  simp only [evalE] at h
  refine tEs.of hE hs h fun xs S1 ρ1 H1 vs e1 s1 r1 h1 => ?_
  split at h1
  · rename_i hz
    refine ⟨by rw [r1.length, ← lim_eq]; exact hz, fun p hp => ?_⟩
    exact h1 ρ1 _ (Ext.new hp) (s1.new hp) _ (rep_newL s1 hp r1) (fresh_newL s1 hp (e1.free (.of hp)) r1)
  · exact h1.elim
theorem s_dnew {t : Bool} : PE X (.Dict [] [] pos) (tE X.K c (.dnew t)) := by
  have nt : ∀ {hid ρ : List Addr} {H : Hp} {S : Sto} {p : Addr}, SOk X.K hid ρ H S → H p = none → Rep X.K hid ρ (upd H p (.dT [])) (.dic true true []) (.ref p) := fun {hid ρ H S p} s hp => by
    simp only [Rep]
    exact ⟨p, [], rfl, upd_same, s.new1 hp, s.new2 hp, by simp only [RepT]⟩
  have nf : ∀ {hid ρ : List Addr} {H : Hp} {S : Sto} {p : Addr}, SOk X.K hid ρ H S → H p = none → Rep X.K hid ρ (upd H p (.dK [])) (.dic true false []) (.ref p) := fun {hid ρ H S p} s hp => by
    simp only [Rep]
    exact ⟨p, [], rfl, upd_same, s.new1 hp, s.new2 hp, by simp only [RepK]⟩
  cases t with
  | true =>
    refine PE.imp pe_dnewT fun σ H Q h => ?_
    obtain ⟨hid, ρ, env, S, hE, hs, h⟩ := h
    simp only [evalE] at h
    exact fun p hp => h ρ _ (Ext.new hp) (hs.new hp) _ (nt hs hp) ⟨p, rfl, .of hp, hs.newC hp ⟨[], upd_same, by simp only [RepT]⟩⟩
  | false =>
    refine PE.imp pe_dnewK fun σ H Q h => ?_
    obtain ⟨hid, ρ, env, S, hE, hs, h⟩ := h
    simp only [evalE] at h
    exact fun p hp => h ρ _ (Ext.new hp) (hs.new hp) _ (nf hs hp) ⟨p, rfl, .of hp, hs.newC hp ⟨[], upd_same, by simp only [RepK]⟩⟩

/-! ### items, slices -/
theorem s_idx (hu : X.A.units + 65 < cLine) (ha : PE X xa (tE X.K c ea)) (hb : PE X xb (tE X.K c eb)) (hp : noSlice xb = true) : PE X (.Subscript xa xb pos) (tE X.K c (.idx ea eb)) := by
  refine PE.imp (pe_ix (ix_Q (by omega)) ha hb (plain_ix hp)) fun σ H Q h => ?_
  exact two_parts (f := fun x y S => R.of (item S x y) S) (fun env S => by simp only [evalE]) h fun hid ρ H0 ρ' H' S x y v w _ s r1 r2 o => ⟨hid, ρ', S, x, y, s, r1, r2, o⟩
def tO (K : PySem.W.Frag) (c : Ctx) (o : Option E) : TO := fun σ H Q => ∃ hid ρ env S, ERep K hid ρ H env σ ∧ SOk K hid ρ H S ∧ Out K hid ρ H (evalO c o env S) fun x _ _ H' => Q x H'
theorem o_none : PO X none (tO X.K c none) := by
  refine PO.imp po_none fun σ H Q h => ?_
  obtain ⟨hid, ρ, env, S, hE, hs, h⟩ := h
  simp only [evalO] at h
  exact h.pure hs
theorem o_some (ha : PE X xa (tE X.K c ea)) : PO X (some xa) (tO X.K c (some ea)) := by
  refine PO.imp (po_some ha) fun σ H Q h => ?_
  obtain ⟨hid, ρ, env, S, hE, hs, h⟩ := h
  simp only [evalO] at h
  refine tE.of hE hs h fun x S1 ρ1 H1 v e1 s1 r1 f1 h1 => ?_
  obtain ⟨i, S2, q, hk⟩ := h1.bind
  obtain ⟨hx, hS⟩ := asInt_ok q
  subst hx hS
  exact ⟨i, r1.int_, (hk ρ1 H1 (Ext.refl _ _)).pure s1⟩
theorem tO.of {K : PySem.W.Frag} {o : Option E} {hid ρ : List Addr} {H : Hp} {env : Env} {S : Sto} {σ : L2.St} {β : Type} {f : Option Int → Sto → R β} {G : β → Sto → List Addr → Hp → Prop} {Q : Option Int → Hp → Prop}
    (he : ERep K hid ρ H env σ) (hs : SOk K hid ρ H S) (h : Out K hid ρ H ((evalO c o env S).bind f) G)
    (k : ∀ x S1 ρ1 H1, Ext ρ H ρ1 H1 → SOk K hid ρ1 H1 S1 → Out K hid ρ1 H1 (f x S1) G → Q x H1) : tO K c o σ H Q := by
  obtain ⟨x, S1, q, hk⟩ := h.bind
  refine ⟨hid, ρ, env, S, he, hs, ?_⟩
  rw [q]
  exact fun ρ1 H1 e1 s1 => k x S1 ρ1 H1 e1 s1 (hk ρ1 H1 e1)
theorem s_slice {lo hi : Option Expr} {el eh : Option E} {p2 : Pos} (ha : PE X xa (tE X.K c ea)) (hl : PO X lo (tO X.K c el)) (hh : PO X hi (tO X.K c eh)) : PE X (.Subscript xa (.Slice lo hi none p2) pos) (tE X.K c (.slice ea el eh)) := by
  refine PE.imp (pe_slice sl_Q ha hl hh) fun σ H Q h => ?_
  obtain ⟨hid, ρ, env, S, hE, hs, h⟩ := h
  simp only [evalE] at h
  refine tE.of hE hs h fun x S1 ρ1 H1 v e1 s1 r1 f1 h1 => tO.of (hE.mono e1) s1 h1 fun l S2 ρ2 H2 e2 s2 h2 => tO.of ((hE.mono e1).mono e2) s2 h2 fun u S3 ρ3 H3 e3 s3 h3 => ?_
  exact ⟨hid, ρ3, S3, x, s3, Rep.mono e3 x v (Rep.mono e2 x v r1), h3.mono fun z S4 ρ4 H4 e q w rw' fw => q w rw' (fw.anti ((e1.trans e2).trans e3))⟩
end
end QE

set_option Elab.async false
set_option linter.all false
set_option maxRecDepth 10000
set_option maxHeartbeats 1000000
/-! min of a list, dict of a list of pairs. -/
namespace QE
open PySem PySem.Spec PyProof.Rows L2
theorem minI_mem (a : Int) : ∀ l : List Int, minI a l ∈ a :: l
  | [] => by simp [minI]
  | x :: l => by
    have h := minI_mem (if x < a then x else a) l
    have e : minI a (x :: l) = minI (if x < a then x else a) l := rfl
    rw [e]
    rcases List.mem_cons.mp h with h | h
    · rw [h]
      split <;> simp
    · simp [h]
theorem minI_le (a : Int) : ∀ (l : List Int) (y : Int), y ∈ a :: l → minI a l ≤ y
  | [], y, h => by simp at h; subst h; exact Int.le_refl _
  | x :: l, y, h => by
    have e : minI a (x :: l) = minI (if x < a then x else a) l := rfl
    rw [e]
    have h0 := minI_le (if x < a then x else a) l (if x < a then x else a) (by simp)
    simp only [List.mem_cons] at h
    rcases h with h | h | h
    · subst h; split at h0 <;> split <;> omega
    · subst h; split at h0 <;> split <;> omega
    · exact minI_le _ l y (by simp [h])
theorem minP_eq (a : Int × Int) (l : List (Int × Int)) : PySem.W.minOf a l = minP a l := rfl
theorem hold_inj {h : Heap} {w : Value} {x y : Int × Int} (h1 : PySem.W.Holds h w x) (h2 : PySem.W.Holds h w y) : x = y := by
  obtain ⟨as, r1⟩ := h1
  obtain ⟨bs, r2⟩ := h2
  obtain ⟨x1, x2⟩ := x
  obtain ⟨y1, y2⟩ := y
  have r1 : Reads h w (.tuple [.int x1, .int x2]) as := r1
  have r2 : Reads h w (.tuple [.int y1, .int y2]) bs := r2
  cases r1 with
  | tuple g1 c1 d1 a1 =>
    cases r2 with
    | tuple g2 c2 d2 a2 =>
      rw [g1] at g2
      cases g2
      rw [d1] at d2
      cases d2
      revert a1 a2
      generalize Array.toList _ = l
      intro a1 a2
      cases a1 with
      | cons u1 a1 =>
        cases a2 with
        | cons u2 a2 =>
          cases a1 with
          | cons u3 a1 =>
            cases a2 with
            | cons u4 a2 =>
              cases u1
              cases u2
              cases u3
              cases u4
              rfl
theorem pairs_nth : ∀ {xs : List Val} {ps : List (Int × Int)} {i : Nat} {x : Val}, pairs? xs = some ps → xs[i]? = some x → ∃ p, ps[i]? = some p ∧ x = .tup [.int p.1, .int p.2]
  | [], _, _, _, _, h => by simp at h
  | y :: xs, ps, i, x, e, h => by
    unfold pairs? at e
    split at e
    · rename_i z; cases z
    · rename_i a b r' hx
      cases hx
      split at e <;> cases e
      rename_i l hl
      cases i with
      | zero => simp at h; subst h; exact ⟨(a, b), rfl, rfl⟩
      | succ i =>
        obtain ⟨p, h1, h2⟩ := pairs_nth hl (by simpa using h)
        exact ⟨p, by simpa using h1, h2⟩
    · cases e
section
variable {X : Cx}
/-- tuples of two ints, as they lie -/
theorem pairs_hold {pins : List (Addr × Obj)} {σ : L2.St} {H : Hp} {s : Shared} {hid ρ : List Addr} (I : Inv X pins σ H s) : ∀ {xs : List Val} {ps : List (Int × Int)} {vs : List V} {us : List Value}, pairs? xs = some ps → RepL X.K hid ρ H xs vs → Vals vs us → PySem.W.HoldAll s.heap us ps
  | [], ps, vs, us, e, r, w => by
    simp only [pairs?, Option.some.injEq] at e
    subst e
    simp only [RepL] at r
    subst r
    cases w
    exact .nil
  | x :: xs, ps, vs, us, e, r, w => by
    unfold pairs? at e
    split at e
    · rename_i h; cases h
    · rename_i a b r' hx
      cases hx
      split at e <;> cases e
      rename_i l hl
      simp only [RepL] at r
      obtain ⟨v, vr, e1, r1, r2⟩ := r
      subst e1
      cases w with
      | cons wu wr =>
        refine .cons ?_ (pairs_hold I hl r2 wr)
        have r1 := r1.2
        simp only [Rep, RepL] at r1
        obtain ⟨t, ws, ev, ht, v1, w1, q1, ⟨_, q2⟩, v2, w2, q3, ⟨_, q4⟩, q5⟩ := r1
        subst ev q5 q3 q1 q2 q4
        obtain ⟨its, rv, tp, _⟩ := I.tuple (SqT.of ht)
        cases wu
        cases rv with
        | cons ra rr =>
          cases rr with
          | cons rb rr =>
            cases rr
            obtain ⟨ta, rfl⟩ := ra
            obtain ⟨tb, rfl⟩ := rb
            exact PySem.W.holds_pair tp (PySem.W.holds_int _ _) (PySem.W.holds_int _ _)
    · cases e
theorem cr_minQ (hc : X.calm = true) (hu : X.A.units + 65 < cLine) : CallR X (.builtin "min") (rBi X.K fun S xs => callBi S .minL xs) := by
  intro pins s σ H vs us Q I r h
  obtain ⟨hid, ρ, S, xs, so, rx, h⟩ := h
  obtain ⟨z, e, hh⟩ := h.of
  clear h
  match xs, rx, e with
  | [x], rx, e =>
    obtain ⟨v, ev, r1⟩ := rx.one
    subst ev
    simp only [callBi] at e
    cases hys : asList S x with
    | none => rw [hys] at e; cases e
    | some ys =>
    rw [hys] at e
    obtain ⟨a, ws, ea, hd, rl⟩ := asList_rep so hys r1
    subst ea
    simp only [minV] at e
    cases hi : ints? ys with
    | some l =>
      rw [hi] at e
      cases l with
      | nil => cases e
      | cons i l =>
        cases e
        have ew := ints_rep rl hi
        subst ew
        refine cr_min hc pins s σ H _ _ Q I r ⟨a, i :: l, rfl, .inl hd, by simp, fun m hm hle => ?_⟩
        have em : m = minI i l := Int.le_antisymm (hle _ (minI_mem i l)) (minI_le i l m hm)
        subst em
        exact fin_same so hh .of_int trivial
    | none =>
      rw [hi] at e
      cases hp : pairs? ys with
      | none => rw [hp] at e; cases e
      | some l =>
        rw [hp] at e
        cases l with
        | nil => cases e
        | cons p l =>
          cases e
          obtain ⟨its, rv, hl, _⟩ := I.list (.inl hd)
          have hold := pairs_hold I hp rl rv
          rw [Vals.ref1 r]
          refine PySem.W.min_list_datum (I.ok.hd hc) hl.isList hold (by show X.A.units + 1 + (max 0 0 + 1) < cLine; omega) fun j w h' tk hj hw hk => ?_
          rw [minP_eq] at hw
          have hj' : its[j]? = some w := by simpa using hj
          have hjl : j < ws.length := by
            rw [rv.length]
            exact (List.getElem?_eq_some_iff.mp hj').1
          have hy : ws[j]? = some ws[j] := List.getElem?_eq_getElem hjl
          obtain ⟨w2, hw2, ry⟩ := rv.get hy
          rw [hj'] at hw2
          cases hw2
          have hjx : j < ys.length := by rw [← rl.length]; exact hjl
          obtain ⟨w3, hw3, st, rx'⟩ := rl.get (List.getElem?_eq_getElem hjx)
          rw [hy] at hw3
          cases hw3
          have J : Inv X pins σ H { s with heap := h', toks := tk } := I.kept hk
          obtain ⟨q, hq, ex⟩ := pairs_nth hp (List.getElem?_eq_getElem hjx)
          obtain ⟨q', hq', hold'⟩ := hold.at hj'
          rw [hq] at hq'
          cases hq'
          have eq := hold_inj (hold'.keeps hk) hw
          rw [ex] at rx'
          refine ⟨ws[j], H, J, ry, ?_⟩
          rw [← eq] at hh
          exact fin_same so hh rx' trivial
/-- pairs of a list, as a dict takes them -/
theorem dict_pairs {K : PySem.W.Frag} {hid ρ : List Addr} {H : Hp} : ∀ {xs : List Val} {acc kvs : List (Val × Val)} {vs : List V} {ws : List (L2.Key × V)}, dictV xs acc = some kvs → RepL K hid ρ H xs vs → RepK K hid ρ H acc ws →
    ∃ (ps : List Addr) (ks : List (L2.Key × V)), vs = ps.map V.ref ∧ Paired (fun p kv => SqT K H p [kV kv.1, kv.2]) ps ks ∧ RepK K hid ρ H kvs (ks.foldl (fun a kv => putK a kv.1 kv.2) ws)
  | [], acc, kvs, vs, ws, e, r, q => by
    simp only [dictV, Option.some.injEq] at e
    subst e
    simp only [RepL] at r
    subst r
    exact ⟨[], [], rfl, .nil, q⟩
  | x :: xs, acc, kvs, vs, ws, e, r, q => by
    have sh : ∃ k v, x = .tup [k, v] ∧ k.flatKey = true ∧ dictV xs (dPut k v acc) = some kvs := by
      cases x with
      | tup ys =>
        match ys, e with
        | [k, v], e =>
          simp only [dictV] at e
          split at e
          · rename_i hk; exact ⟨k, v, rfl, hk, e⟩
          · cases e
        | [], e => simp [dictV] at e
        | [_], e => simp [dictV] at e
        | _ :: _ :: _ :: _, e => simp [dictV] at e
      | _ => simp [dictV] at e
    obtain ⟨k, v, ex, hk, e'⟩ := sh
    subst ex
    simp only [RepL] at r
    obtain ⟨v0, vr, e1, r1, r2⟩ := r
    subst e1
    have r1 := r1.2
    simp only [Rep, RepL] at r1
    obtain ⟨t, us, ev, ht, v1, w1, q1, q2, v2, w2, q3, q4, q5⟩ := r1
    subst ev q5 q3 q1
    obtain ⟨ps, ks, e2, e3, e4⟩ := dict_pairs e' r2 (RepK.put hk q4 q)
    subst e2
    refine ⟨t :: ps, (keyOf k, v2) :: ks, rfl, .cons ?_ e3, e4⟩
    have ek : v1 = kV (keyOf k) := by
      cases k <;> first | (cases hk; done) | skip
      · exact q2.2.int_
      · exact q2.2.str_
    rw [← ek]
    exact SqT.of ht
theorem cr_dictQ (hc : X.calm = true) : CallR X (.type "dict") (rBi X.K fun S xs => callBi S .dict xs) := by
  intro pins s σ H vs us Q I r h
  obtain ⟨hid, ρ, S, xs, so, rx, h⟩ := h
  obtain ⟨z, e, hh⟩ := h.of
  clear h
  match xs, rx, e with
  | [x], rx, e =>
    obtain ⟨v, ev, r1⟩ := rx.one
    subst ev
    simp only [callBi] at e
    cases hys : asList S x with
    | none => rw [hys] at e; cases e
    | some ys =>
    rw [hys] at e
    obtain ⟨a, ws, ea, hd, rl⟩ := asList_rep so hys r1
    subst ea
    have hz : ys.length ≤ lim := by
      apply Classical.byContradiction
      intro hz
      simp only [hz, if_false] at e
      cases e
    simp only [hz, if_true] at e
    cases hk : dictV ys [] with
    | none => rw [hk] at e; cases e
    | some kvs =>
    rw [hk] at e
    cases e
    obtain ⟨ps, ks, e2, e3, e4⟩ := dict_pairs hk rl (ws := []) (by simp only [RepK])
    subst e2
    refine call_dictP hc pins s σ H _ _ Q I r ⟨a, ps, ks, rfl, .inl hd, e3, fun p hp => ?_⟩
    have e5 : RepK X.K hid ρ (upd H p (.dK (mergeK [] ks))) kvs (mergeK [] ks) := RepK.mono (Ext.new hp) _ _ e4
    refine fin_new so hh hp ?_ ⟨p, rfl, .of hp, so.newC hp ⟨_, upd_same, RepK.mono (Ext.newC hp) _ _ e4⟩⟩
    simp only [Rep]
    exact ⟨p, _, rfl, upd_same, so.new1 hp, so.new2 hp, e5⟩
end
end QE

set_option Elab.async false
set_option linter.all false
set_option maxRecDepth 10000
set_option maxHeartbeats 1000000
/-! Expressions: and, or, calls, built-ins, methods, cells. -/
namespace QE
open PySem PySem.Spec PyProof.Rows L2
theorem R.bind_assoc {α β γ : Type} (r : R α) (f : α → Sto → R β) (g : β → Sto → R γ) : (r.bind f).bind g = r.bind fun a S => (f a S).bind g := by cases r <;> rfl
section
variable {X : Cx} {c : Ctx} {pos : Pos} {xa xb : Expr} {ea eb : E} {xs : List Expr} {es : List E}

/-! ### and, or -/
theorem s_and1 (ha : PE X xa (tE X.K c ea)) : PE X (.BoolOp .And [xa] pos) (tE X.K c (.and [ea])) := by
  refine PE.imp (pe_one ha) fun σ H Q h => ?_
  obtain ⟨hid, ρ, env, S, hE, hs, h⟩ := h
  simp only [evalE, evalAnd, R.bind_assoc] at h
  refine tE.of hE hs h fun x S1 ρ1 H1 v e1 s1 r1 f1 h1 => ?_
  obtain ⟨b, S2, q, hk⟩ := h1.bind
  obtain ⟨hx, hS⟩ := asBl_ok q
  subst hx hS
  cases r1.bl_
  have h2 := hk ρ1 H1 (Ext.refl _ _)
  cases b with
  | true => exact h2.pure s1 _ .of_bl trivial
  | false => exact h2.pure s1 _ .of_bl trivial
theorem s_and (ha : PE X xa (tE X.K c ea)) (hb : PE X (.BoolOp .And (xb :: xs) pos) (tE X.K c (.and (eb :: es)))) : PE X (.BoolOp .And (xa :: xb :: xs) pos) (tE X.K c (.and (ea :: eb :: es))) := by
  refine PE.imp (pe_and ha hb) fun σ H Q h => ?_
  obtain ⟨hid, ρ, env, S, hE, hs, h⟩ := h
  rw [evalE, evalAnd] at h
  simp only [R.bind_assoc] at h
  refine tE.of hE hs h fun x S1 ρ1 H1 v e1 s1 r1 f1 h1 => ?_
  obtain ⟨b, S2, q, hk⟩ := h1.bind
  obtain ⟨hx, hS⟩ := asBl_ok q
  subst hx hS
  have h2 := hk ρ1 H1 (Ext.refl _ _)
  refine ⟨b, r1.bl_, ?_⟩
  cases b with
  | true =>
    refine ⟨hid, ρ1, env, _, hE.mono e1, s1, ?_⟩
    rw [evalE]
    exact h2.mono fun z S2 ρ2 H2 e q u ru fu => q u ru (fu.anti e1)
  | false => exact h2.pure s1 _ .of_bl trivial
theorem s_or1 (ha : PE X xa (tE X.K c ea)) : PE X (.BoolOp .Or [xa] pos) (tE X.K c (.or [ea])) := by
  refine PE.imp (pe_one ha) fun σ H Q h => ?_
  obtain ⟨hid, ρ, env, S, hE, hs, h⟩ := h
  simp only [evalE, evalOr, R.bind_assoc] at h
  refine tE.of hE hs h fun x S1 ρ1 H1 v e1 s1 r1 f1 h1 => ?_
  obtain ⟨b, S2, q, hk⟩ := h1.bind
  obtain ⟨hx, hS⟩ := asBl_ok q
  subst hx hS
  cases r1.bl_
  have h2 := hk ρ1 H1 (Ext.refl _ _)
  cases b with
  | true => exact h2.pure s1 _ .of_bl trivial
  | false => exact h2.pure s1 _ .of_bl trivial
theorem s_or (ha : PE X xa (tE X.K c ea)) (hb : PE X (.BoolOp .Or (xb :: xs) pos) (tE X.K c (.or (eb :: es)))) : PE X (.BoolOp .Or (xa :: xb :: xs) pos) (tE X.K c (.or (ea :: eb :: es))) := by
  refine PE.imp (pe_or ha hb) fun σ H Q h => ?_
  obtain ⟨hid, ρ, env, S, hE, hs, h⟩ := h
  rw [evalE, evalOr] at h
  simp only [R.bind_assoc] at h
  refine tE.of hE hs h fun x S1 ρ1 H1 v e1 s1 r1 f1 h1 => ?_
  obtain ⟨b, S2, q, hk⟩ := h1.bind
  obtain ⟨hx, hS⟩ := asBl_ok q
  subst hx hS
  have h2 := hk ρ1 H1 (Ext.refl _ _)
  refine ⟨b, r1.bl_, ?_⟩
  cases b with
  | false =>
    refine ⟨hid, ρ1, env, _, hE.mono e1, s1, ?_⟩
    rw [evalE]
    exact h2.mono fun z S2 ρ2 H2 e q u ru fu => q u ru (fu.anti e1)
  | true => exact h2.pure s1 _ .of_bl trivial
/-- reading a test, as it stands in a test's own form -/
theorem tT_and (f : ∀ env S, evalE c eb env S = (evalE c ea env S).bind fun x S1 => (asBl x S1).bind fun b S2 => .ok (.bl b) S2) {σ : L2.St} {H : Hp} {Q : Bool → Hp → Prop} (h : tT X.K c eb σ H Q) : tT X.K c ea σ H Q := by
  obtain ⟨hid, ρ, env, S, hE, hs, h⟩ := h
  rw [f] at h
  refine tT.of hE hs h fun b S1 ρ1 H1 e1 s1 h1 => ?_
  obtain ⟨b', eb', q⟩ := h1.pure s1
  cases eb'
  exact q
theorem w_and1 (ha : PT X xa (tT X.K c ea)) : PW X (.BoolOp .And [xa] pos) (tT X.K c (.and [ea])) := by
  refine PW.imp (pw_and1 ha) fun σ H Q h => tT_and (fun env S => ?_) h
  simp only [evalE, evalAnd, R.bind_assoc]
  congr
  funext x S1
  congr
  funext b S2
  cases b <;> rfl
theorem w_or1 (ha : PT X xa (tT X.K c ea)) : PW X (.BoolOp .Or [xa] pos) (tT X.K c (.or [ea])) := by
  refine PW.imp (pw_or1 ha) fun σ H Q h => tT_and (fun env S => ?_) h
  simp only [evalE, evalOr, R.bind_assoc]
  congr
  funext x S1
  congr
  funext b S2
  cases b <;> rfl
theorem w_and (ha : PT X xa (tT X.K c ea)) (hb : PW X (.BoolOp .And (xb :: xs) pos) (tT X.K c (.and (eb :: es)))) : PW X (.BoolOp .And (xa :: xb :: xs) pos) (tT X.K c (.and (ea :: eb :: es))) := by
  refine PW.imp (pw_and ha hb) fun σ H Q h => ?_
  obtain ⟨hid, ρ, env, S, hE, hs, h⟩ := h
  rw [evalE, evalAnd] at h
  simp only [R.bind_assoc] at h
  refine tT.of hE hs h fun b S1 ρ1 H1 e1 s1 h2 => ?_
  cases b with
  | true =>
    refine ⟨hid, ρ1, env, _, hE.mono e1, s1, ?_⟩
    rw [evalE]
    exact h2
  | false =>
    obtain ⟨b', eb', q⟩ := h2.pure s1
    cases eb'
    exact q
theorem w_or (ha : PT X xa (tT X.K c ea)) (hb : PW X (.BoolOp .Or (xb :: xs) pos) (tT X.K c (.or (eb :: es)))) : PW X (.BoolOp .Or (xa :: xb :: xs) pos) (tT X.K c (.or (ea :: eb :: es))) := by
  refine PW.imp (pw_or ha hb) fun σ H Q h => ?_
  obtain ⟨hid, ρ, env, S, hE, hs, h⟩ := h
  rw [evalE, evalOr] at h
  simp only [R.bind_assoc] at h
  refine tT.of hE hs h fun b S1 ρ1 H1 e1 s1 h2 => ?_
  cases b with
  | false =>
    refine ⟨hid, ρ1, env, _, hE.mono e1, s1, ?_⟩
    rw [evalE]
    exact h2
  | true =>
    obtain ⟨b', eb', q⟩ := h2.pure s1
    cases eb'
    exact q

/-! ### calls -/
/-- what the def f promises -/
def spF (K : PySem.W.Frag) (cls : Nat → Option Nat) (call : Nat → List Val → Sto → R Val) (f : Nat) : Sp := fun vs H Q E => ∃ hid ρ S xs, SOk K hid ρ H S ∧ RepL K hid ρ H xs vs ∧
  OutS K hid ρ H (call f xs S) (Gv K hid H Q) (fun k _ _ H' => ∀ C, cls k = some C → E (.ref C) none H')
theorem passN {X : Cx} : Passes (L2N.CX X.prog X.w) X E0 := fun _ _ _ _ _ _ _ h => by
  obtain ⟨_, _, _, _, _, _, _, _, _, _, _, _, z⟩ := h
  exact z.elim
theorem call_read {f : Nat} {σ : L2.St} {H : Hp} {Q : VK} (h : tE X.K c (.call f es) σ H Q) : tCall (spF X.K c.cls c.call f) [] E0 (tEs X.K c es) σ H Q := by
  obtain ⟨hid, ρ, env, S, hE, hs, h⟩ := h
  simp only [evalE] at h
  refine tEs.of hE hs h fun ys S1 ρ1 H1 vs e1 s1 r1 h1 => ⟨hid, ρ1, S1, ys, s1, ?_, (h1.mono fun z S2 ρ2 H2 e q u ru fu => q u ru (fu.anti e1)).toS⟩
  rw [List.append_nil]
  exact r1
variable {x : Str} {p : Pos} {fa : Addr} {fd : FuncData} {ps : List Str} {k : Nat}
theorem s_call {f : Nat} (F : FnOk X.prog X.w X.K X.mg X.base (L2N.CX X.prog X.w) k fa fd ps (spF X.K c.cls c.call f)) (hr : Room k X.A) (hg : Gl X x) (hm : X.mg x = some (.ref fa)) (hk : PySem.W.keepIn X.K (.ref fa) = true) (hb : Binds X.K fd ps [])
    (ha : PA X (xa :: xs) (tEs X.K c es)) (hdb : (x == ("__debug__" : Str)) = false) (hp : (xa :: xs).all plainE = true) : PE X (.Call (.Name x p) (xa :: xs) [] pos) (tE X.K c (.call f es)) := by
  have hp' := hp
  simp only [List.all_cons, Bool.and_eq_true] at hp'
  exact PE.imp (pe_call F hr hg hm hk hb .nil passN ha hdb (star_cons hp'.1 _ _) (star_none _ _ _ hp'.2)) fun σ H Q h => call_read h
theorem s_call0 {f : Nat} (F : FnOk X.prog X.w X.K X.mg X.base (L2N.CX X.prog X.w) k fa fd ps (spF X.K c.cls c.call f)) (hr : Room k X.A) (hg : Gl X x) (hm : X.mg x = some (.ref fa)) (hk : PySem.W.keepIn X.K (.ref fa) = true) (hb : Binds X.K fd ps [])
    (hdb : (x == ("__debug__" : Str)) = false) : PE X (.Call (.Name x p) [] [] pos) (tE X.K c (.call f [])) := by
  refine PE.imp (pe_call0 F hr hg hm hk hb .nil passN hdb) fun σ H Q h => ?_
  obtain ⟨hid, ρ, env, S, hE, hs, h⟩ := h
  simp only [evalE, evalEs, R.bind] at h
  exact ⟨hid, ρ, S, [], hs, .nil, h.toS⟩

/-! ### built-ins -/
def biName : Bi → String
  | .len => "len"
  | .all => "all"
  | .any => "any"
  | .list => "list"
  | .tuple => "tuple"
  | .sum => "sum"
  | .min2 => "min"
  | .max2 => "max"
  | .abs => "abs"
  | .int => "int"
  | .str => "str"
  | .minL => "min"
  | .dict => "dict"
def biTy : Bi → Bool
  | .list => true
  | .tuple => true
  | .int => true
  | .str => true
  | .dict => true
  | _ => false
theorem bi_boot : ∀ b : Bi, bootBuiltins (PySem.Str.ofString (biName b)) = some (if biTy b then .type (biName b) else .builtin (biName b)) := by
  intro b; cases b <;> decide +kernel
theorem ty_boot : ∀ t : Ty, bootBuiltins (PySem.Str.ofString (tyStr t)) = some (.type (tyStr t)) := by
  intro b; cases b <;> decide +kernel
theorem bi_call (hc : X.calm = true) (hu : X.A.units + 65 < cLine) (b : Bi) (hb : biTy b = false) : CallR X (.builtin (biName b)) (rBi X.K fun S xs => callBi S b xs) := by
  cases b
  · exact cr_len
  · exact cr_allQ hc
  · exact cr_anyQ hc
  · cases hb
  · cases hb
  · exact cr_sumQ hc
  · exact cr_min2Q hc
  · exact cr_max2Q hc
  · exact cr_absQ
  · cases hb
  · cases hb
  · exact cr_minQ hc hu
  · cases hb
theorem bi_type (hc : X.calm = true) (b : Bi) (hb : biTy b = true) : CallR X (.type (biName b)) (rBi X.K fun S xs => callBi S b xs) := by
  cases b
  · cases hb
  · cases hb
  · cases hb
  · exact cr_listQ
  · exact cr_tupleQ
  · cases hb
  · cases hb
  · cases hb
  · cases hb
  · exact cr_intQ
  · exact cr_strQ
  · cases hb
  · exact cr_dictQ hc
theorem s_bi {b : Bi} (hc : X.calm = true) (hu : X.A.units + 65 < cLine) (ex : x = PySem.Str.ofString (biName b)) (hg : Gl X x) (hm : X.mg x = none) (ha : PA X (xa :: xs) (tEs X.K c es)) (hp : (xa :: xs).all plainE = true) (hn : x ≠ "__name__") (hdb : (x == ("__debug__" : Str)) = false) :
    PE X (.Call (.Name x p) (xa :: xs) [] pos) (tE X.K c (.bi b es)) := by
  have hp' := hp
  simp only [List.all_cons, Bool.and_eq_true] at hp'
  have bb := bi_boot b
  rw [← ex] at bb
  have rd : ∀ σ H Q, tE X.K c (.bi b es) σ H Q → tCB (rBi X.K fun S xs => callBi S b xs) (tEs X.K c es) σ H Q := fun σ H Q h => by
    obtain ⟨hid, ρ, env, S, hE, hs, h⟩ := h
    simp only [evalE] at h
    exact tEs.of hE hs h fun ys S1 ρ1 H1 vs e1 s1 r1 h1 => ⟨hid, ρ1, S1, ys, s1, r1, h1.mono fun z S2 ρ2 H2 e q u ru fu => q u ru (fu.anti e1)⟩
  cases ht : biTy b with
  | false =>
    rw [ht] at bb
    exact PE.imp (pe_callB (bi_call hc hu b ht) hg hm bb ha hn hdb (star_cons hp'.1 _ _) (star_none _ _ _ hp'.2)) rd
  | true =>
    rw [ht] at bb
    exact PE.imp (pe_callTy (bi_type hc b ht) hg hm bb ha hn hdb (star_cons hp'.1 _ _) (star_none _ _ _ hp'.2)) rd
/-- tuple(x), also within an except suite -/
theorem s_tupleC {p : Pos} (ex : x = PySem.Str.ofString "tuple") (hg : Gl X x) (hm : X.mg x = none) (ha : PA X (xa :: xs) (tEs X.K c es)) (hp : (xa :: xs).all plainE = true) (hn : x ≠ "__name__") (hdb : (x == ("__debug__" : Str)) = false) :
    PE X (.Call (.Name x p) (xa :: xs) [] pos) (tE X.K c (.bi .tuple es)) := by
  have hp' := hp
  simp only [List.all_cons, Bool.and_eq_true] at hp'
  have bb := bi_boot .tuple
  rw [show PySem.Str.ofString (biName .tuple) = x from ex.symm] at bb
  refine PE.imp (pe_callTy cr_tupleQ hg hm bb ha hn hdb (star_cons hp'.1 _ _) (star_none _ _ _ hp'.2)) fun σ H Q h => ?_
  obtain ⟨hid, ρ, env, S, hE, hs, h⟩ := h
  simp only [evalE] at h
  exact tEs.of hE hs h fun ys S1 ρ1 H1 vs e1 s1 r1 h1 => ⟨hid, ρ1, S1, ys, s1, r1, h1.mono fun z S2 ρ2 H2 e q u ru fu => q u ru (fu.anti e1)⟩
theorem s_isi {t : Ty} {y : Str} {p2 : Pos} (ex : x = PySem.Str.ofString "isinstance") (ey : y = PySem.Str.ofString (tyStr t)) (hg : Gl X x) (hm : X.mg x = none) (hg2 : Gl X y) (hm2 : X.mg y = none) (ha : PE X xa (tE X.K c ea)) (hp : plainE xa = true)
    (hn : x ≠ "__name__") (hdb : (x == ("__debug__" : Str)) = false) (hn2 : y ≠ "__name__") (hdb2 : (y == ("__debug__" : Str)) = false) :
    PE X (.Call (.Name x p) [xa, .Name y p2] [] pos) (tE X.K c (.isi t ea)) := by
  have b1 : bootBuiltins x = some (.builtin "isinstance") := by rw [ex]; decide +kernel
  have b2 := ty_boot t
  rw [← ey] at b2
  refine PE.imp (pe_callB (cr_isQ (t := t)) hg hm b1 (pa_cons ha (pa_cons (pe_bltn hg2 hm2 b2 (v := .ty (tyStr t)) rfl hn2 hdb2) pa_nil (star_cons rfl _ _)) (star_cons hp _ _)) hn hdb (star_cons hp _ _) (star_none _ _ _ rfl)) fun σ H Q h => ?_
  obtain ⟨hid, ρ, env, S, hE, hs, h⟩ := h
  simp only [evalE] at h
  refine tE.of hE hs h fun x S1 ρ1 H1 v e1 s1 r1 f1 h1 => ?_
  obtain ⟨b, S2, q, hk⟩ := h1.bind
  cases hc : isTy S1 t x with
  | none => rw [hc] at q; cases q
  | some b' =>
    rw [hc] at q
    cases q
    exact ⟨hid, ρ1, S1, x, v, b, rfl, s1, r1, hc, (hk ρ1 H1 (Ext.refl _ _)).pure s1 _ .of_bl trivial⟩

/-! ### methods -/
theorem is_list {K : PySem.W.Frag} {hid ρ : List Addr} {H : Hp} {S : Sto} {y : Val} {v : V} {l : List Val} (so : SOk K hid ρ H S) (r : Rep K hid ρ H y v) (e : asList S y = some l) : tyV K "list" v H := by
  obtain ⟨a, vs, ev, q, _⟩ := asList_rep so e r
  subst ev
  exact .inl ⟨rfl, vs, .inl q⟩
def meName : Me → String
  | .count => "count"
  | .index => "index"
theorem few_one {cpos : Pos} {e : Expr} {env : PySem.Env} (hp : plainE e = true) : ((backTo cpos (starEach [e] env)).all (fun x => !x.1) && (backToKw cpos (keywordEach [] env)).all (fun x => x.1.isSome)
      && decide ([e].length + ([] : List Keyword).length + (if ([] : List Keyword).isEmpty then 0 else 1) < 30)) = true := by
  rw [star_cons hp]
  rfl
theorem meth_read {K : PySem.W.Frag} {ρb : List Addr} {e : E} {eo ea : E} {r : V → List V → Hp → VK → Prop} {f : Val → Val → Sto → R Val} {σ : L2.St} {H : Hp} {Q : VK}
    (he : ∀ env S, evalE c e env S = (evalE c eo env S).bind fun x S1 => (R.of (asList S1 x) S1).bind fun _ S1 => (evalE c ea env S1).bind fun v S2 => f x v.settle S2)
    (k : ∀ hid ρ H S x y v w Q, SOk K hid ρ H S → Rep K hid ρ H x v → y.st = true → Rep K hid ρ H y w → Out K hid ρ H (f x y S) (Gv K hid H Q) → r v [w] H Q)
    (h : tE K c e σ H Q) : tBM K "list" r (tE K c eo) (tCons (tE K c ea) tNil) σ H Q := by
  obtain ⟨hid, ρ, env, S, hE, hs, h⟩ := h
  rw [he] at h
  refine tE.of hE hs h fun x S1 ρ1 H1 v e1 s1 r1 f1 h1 => ?_
  obtain ⟨l, S2, q, hk⟩ := h1.bind
  cases hl : asList S1 x with
  | none => rw [hl] at q; cases q
  | some l' =>
    rw [hl] at q
    cases q
    have h2 := hk ρ1 H1 (Ext.refl _ _)
    refine ⟨is_list s1 r1 hl, ?_⟩
    refine tE.of (hE.mono e1) s1 h2 fun y S3 ρ3 H3 w e3 s3 r3 f3 h3 => ?_
    exact k hid ρ3 H3 S3 x y.settle v w Q s3 (Rep.mono e3 x v r1) (st_settle y) r3.settle (h3.mono fun z S4 ρ4 H4 e q u ru fu => q u ru (fu.anti (e1.trans e3)))
variable {apos : Pos} {xo : Expr} {eo : E} {nm : Str}
theorem s_meth {m : Me} (hu : X.A.units + 65 < cLine) (en : nm = PySem.Str.ofString (meName m)) (ho : PE X xo (tE X.K c eo)) (ha : PE X xa (tE X.K c ea)) (hp : plainE xa = true) (hb : plainO xo = true) (hl : (apos.endLine == pos.line) = true) :
    PE X (.Call (.Attribute xo nm apos) [xa] [] pos) (tE X.K c (.meth m eo ea)) := by
  have A := pa_cons ha (pa_nil (X := X)) (star_cons hp _ _)
  have rd : ∀ σ H Q, tE X.K c (.meth m eo ea) σ H Q → tBM X.K "list" (rMe X.K m) (tE X.K c eo) (tCons (tE X.K c ea) tNil) σ H Q := fun σ H Q h =>
    meth_read (ρb := []) (f := fun x y S => R.of (callMe S m x [y]) S) (fun env S => by simp only [evalE]) (fun hid ρ H S x y v w Q s r1 st r2 o => ⟨hid, ρ, S, x, [y], s, r1, .cons ⟨st, r2⟩ .nil, o⟩) h
  cases m with
  | count =>
    subst en
    exact PE.imp (pe_bm PySem.F.plainAttrs_list PySem.F.slot_list_count PySem.F.type_list_count mt_countQ ho A (plain_base hb _ _) (few_one hp) hl (star_cons hp _ _) (star_none _ _ _ rfl)) rd
  | index =>
    subst en
    exact PE.imp (pe_bm PySem.F.plainAttrs_list PySem.F.slot_list_index PySem.F.type_list_index (mt_indexQ hu) ho A (plain_base hb _ _) (few_one hp) hl (star_cons hp _ _) (star_none _ _ _ rfl)) rd
theorem s_append (en : nm = PySem.Str.ofString "append") (ho : PE X xo (tE X.K c eo)) (ha : PE X xa (tE X.K c ea)) (hp : plainE xa = true) (hb : plainO xo = true) (hl : (apos.endLine == pos.line) = true) :
    PE X (.Call (.Attribute xo nm apos) [xa] [] pos) (tE X.K c (.append eo ea)) := by
  have A := pa_cons ha (pa_nil (X := X)) (star_cons hp _ _)
  subst en
  exact PE.imp (pe_bm PySem.F.plainAttrs_list PySem.F.slot_list_append PySem.F.type_list_append (mt_appQ (b := c.base)) ho A (plain_base hb _ _) (few_one hp) hl (star_cons hp _ _) (star_none _ _ _ rfl)) fun σ H Q h =>
    meth_read (ρb := []) (f := fun x y S => QE.append c.base S x y) (fun env S => by simp only [evalE]) (fun hid ρ H S x y v w Q s r1 st r2 o => ⟨hid, ρ, S, x, y, w, rfl, s, r1, r2, o⟩) h

/-! ### a cell for a fresh list or dict -/
theorem Ext.give {ρ : List Addr} {H H1 : Hp} {ρ1 : List Addr} {a : Addr} (e : Ext ρ H ρ1 H1) (h : Gone H a) : Ext ρ H (ρ1 ++ [a]) H1 := by
  obtain ⟨new, q, k⟩ := e.more
  refine ⟨⟨new ++ [a], by rw [q, List.append_assoc], fun b hb => ?_⟩, e.keep0, e.there0, e.tups, e.frzs⟩
  rcases List.mem_append.mp hb with hb | hb
  · exact k b hb
  · rw [List.mem_singleton.mp hb]; exact h
theorem s_cell {e : Expr} {ev : E} (h : PE X e (tE X.K c ev)) : PE X e (tE X.K c (.cell ev)) := by
  refine PE.imp h fun σ H Q h => ?_
  obtain ⟨hid, ρ, env, S, hE, hs, h⟩ := h
  simp only [evalE] at h
  obtain ⟨x, S1, q, hk⟩ := h.bind
  refine ⟨hid, ρ, env, S, hE, hs, ?_⟩
  rw [q]
  intro ρ1 H1 e1 s1 v r fr
  have hk := hk ρ H (Ext.refl _ _)
  unfold newCell at hk
  split at hk
  · rename_i xs
    obtain ⟨a, ev, h0, s2⟩ := fr
    subst ev
    refine hk (ρ1 ++ [a]) H1 (e1.give h0) s2 (.ref a) ?_ trivial
    simp only [Rep]
    refine ⟨a, ?_, rfl⟩
    rw [← s1.len, List.getElem?_append_right (Nat.le_refl _)]
    simp
  · rename_i t kvs
    obtain ⟨a, ev, h0, s2⟩ := fr
    subst ev
    refine hk (ρ1 ++ [a]) H1 (e1.give h0) s2 (.ref a) ?_ trivial
    simp only [Rep]
    refine ⟨a, ?_, rfl⟩
    rw [← s1.len, List.getElem?_append_right (Nat.le_refl _)]
    simp
  · exact hk.elim
end
end QE

set_option Elab.async false
set_option linter.all false
set_option maxRecDepth 100000
set_option maxHeartbeats 1000000
/-! enumerate(a tuple). -/
namespace PySem
open Sem (wp)
theorem meets_en1 {u : Value} {ob : Obj} {Hh : Heap → Prop} (B : Begins u ob Hh) :
    Meets (Builtin.«enumerate.__new__» ⟨[.type "enumerate", u], []⟩) (fun _ R z => Hh z.heap ∧
      R (.ok (.ret (.ref (z.heap.push ob).objs.size))) { z with heap := (z.heap.push ob).push { cls := .type "enumerate", data := .fields #[.none, .bool false, .ref z.heap.objs.size, rawInt 0, .none, .none] } }) :=
  .of_wp fun pr wo Ar Rr z hz => by
    obtain ⟨hp, g, d, tk, os⟩ := z; obtain ⟨ha, hz⟩ := hz
    have hsub := sub_enumerate
    have it1 : ∀ {A' : Around} {E : Value → Shared → Prop} {Q : Value → Shared → Prop}, Q (.ref hp.objs.size) ⟨hp.push ob, g, d, tk, os⟩ → wpAny (model pr wo) A' (pyIter u) Q E ⟨hp, g, d, tk, os⟩ :=
      fun q => B.iter pr wo _ _ ⟨hp, g, d, tk, os⟩ _ ha q
    wp_walk using it1
    refine wpAny_stack_any fun st => wpAny_pure ?_
    split
    · rename_i c _ _ _ _ _
      cases (c == Value.type "enumerate")
      · wp_walk using it1
        exact ⟨_, rfl, hz⟩
      · wp_walk using it1
        exact ⟨_, rfl, hz⟩
    · wp_walk using it1
      exact ⟨_, rfl, hz⟩
theorem call_en1 {prog : Program} {w : World} {A : Around} {E : Value → Shared → Prop} {z : Shared} {u : Value} {ob : Obj} {Hh : Heap → Prop} {Q : Value → Shared → Prop} (B : Begins u ob Hh) (ha : Hh z.heap)
    (k : ∀ h', IsEnum h' (z.heap.objs.size + 1) z.heap.objs.size 0 .none → h'.get? z.heap.objs.size = some ob → (∀ c r, z.heap.get? c = some r → h'.get? c = some r) → Q (.ref (z.heap.objs.size + 1)) { z with heap := h' }) :
    wpAny (model prog w) A (call (.type "enumerate") [u]) Q E z := by
  refine callType_new F.called_enumerate (by decide) (F.typeCall_enumerate_1 _) (F.newCall_enumerate_1 _) (fun obj => F.args_object_init_2 obj _) F.entry_enumerate_new
    (meets_en1 B) ⟨ha, ?_⟩
  have hz : (z.heap.push ob).objs.size = z.heap.objs.size + 1 := Heap.size_push ..
  show _ ∧ _
  rw [hz]
  have he : IsEnum ((z.heap.push ob).push { cls := .type "enumerate", data := .fields #[.none, .bool false, .ref z.heap.objs.size, rawInt 0, .none, .none] }) (z.heap.objs.size + 1) z.heap.objs.size 0 .none := by
    have := Heap.get?_push_size (z.heap.push ob) (o := { cls := .type "enumerate", data := .fields #[.none, .bool false, .ref z.heap.objs.size, rawInt 0, .none, .none] }) rfl
    rw [hz] at this; exact this
  exact ⟨⟨_, he, rfl⟩, k _ he (Heap.get?_push_of_some _ (Heap.get?_push_size _ B.free)) fun c r x => Heap.get?_push_of_some _ (Heap.get?_push_of_some _ x)⟩
end PySem
namespace QE
open PySem PySem.Spec PyProof.Rows L2
/-- the tuple at a, each item in a new pair -/
def IteT (K : PySem.W.Frag) (a : Addr) : It :=
  ⟨fun i H => ∃ (ys : List V) (y : V), SqT K H a ys ∧ ys[i]? = some y, fun i H v H' => ∃ T y, v = .ref T ∧ H T = none ∧ H' = upd H T (.tup [.int (i : Nat), y]) ∧ ∀ ys, SqT K H a ys → ys[i]? = some y,
    fun i H => ∃ ys : List V, SqT K H a ys ∧ ys.length = i⟩
theorem turn_enumT {P : Program} {w : World} {K : PySem.W.Frag} {elts : List Expr} {kk : Nat} {tpos : Pos} (a e it : Addr) :
    Turn P w K (.Tuple elts kk tpos) (IteT K a) [e, it] e (fun i h => (∃ old, IsEnum h e it ((i : Nat) : Int) old) ∧ h.IsTupleIter it a i ∧ e ≠ it ∧ a ≠ it ∧ e ≠ a) where
  mem := by simp
  obj := fun i h st b hb => by
    obtain ⟨⟨old, he⟩, ⟨o, ho, hc, hd⟩, _⟩ := st
    have e' : b = e ∨ b = it := by simpa using hb
    rcases e' with z | z
    · rw [z]; exact ⟨_, he, fun v q => nomatch q⟩
    · rw [z]; exact ⟨o, ho, fun v q => by rw [hd] at q; cases q⟩
  keep := fun i h h' st k => let ⟨⟨old, he⟩, hi, hne⟩ := st; ⟨⟨old, k e (by simp) _ he⟩, hi.at fun o q => k it (by simp) o q, hne⟩
  item := by
    intro X hP hw hK hc i pins s σ H E I hf st hg
    subst hP hw hK
    obtain ⟨⟨old, he⟩, hit, hne, hai, hea⟩ := st
    obtain ⟨ys, y, hq, hy⟩ := hg
    obtain ⟨its, rv, p, hz⟩ := I.tuple hq
    have p : s.heap.IsTuple a its.toArray := p
    obtain ⟨u, hu, ru⟩ := rv.get hy
    have hel : e < s.heap.objs.size := Heap.lt_size he
    have hil : it < s.heap.objs.size := by obtain ⟨_, q, _⟩ := hit; exact Heap.lt_size q
    have lt : i < its.toArray.size := by
      have := (List.getElem?_eq_some_iff.mp hu).1
      simpa using this
    refine wpAny_pyNext_enum_itemD (Draws.tuple (A := X.A.in1) (I.ok.hd hc) it a hai its.toArray) he ⟨hit, p⟩ lt hne (by simp [hne, hea]) fun x h' tk hP ho hS hT hsz hk => ?_
    have ex : x = u := by
      have : its.toArray[i]? = some u := by simpa using hu
      rw [this] at hP
      exact (Option.some.inj hP).symm
    subst ex
    refine ⟨_, rfl, wpAny_letOwnedTupleGo_enum (s := { s with heap := h', toks := tk + 1 }) ho fun h'' he' sb => ?_⟩
    have hT2 : h''.get? s.heap.objs.size = some { cls := .type "tuple", data := .seq #[.int i tk, x] } := (sb.2 _ (Nat.ne_of_gt hel)).trans hT
    have new : ObjOk X.prog X.w (upd H s.heap.objs.size (.tup [.int (i : Nat), y])) h'' s.heap.objs.size (.tup [.int (i : Nat), y]) :=
      ⟨by show 2 ≤ sizeLine; decide, [.int i tk, x], .cons ⟨_, rfl⟩ (.cons ru .nil), ⟨_, hT2, rfl, _, rfl⟩⟩
    have I1 : Inv X pins σ (upd H s.heap.objs.size (.tup [.int (i : Nat), y])) { s with heap := h'', toks := tk + 1 } :=
      I.turnedNew (ch := [e, it]) (fun c oc hb q => (sb.2 c (fun z => hb (by simp [z]))).trans (hk c oc (fun z => hb (by simp [z])) (fun z => hb (by simp [z])) q)) hf (Nat.le_refl _) new
    refine ⟨.ref s.heap.objs.size, _, I1, rfl, ⟨_, y, rfl, I.hok.fresh (Nat.le_refl _), rfl, fun zs hz => by rw [I.tuple_inj hz hq]; exact hy⟩, ⟨⟨x, ?_⟩, hS.1.at fun o q => (sb.2 it (Ne.symm hne)).trans q, hne, hai, hea⟩, fun c hb => ?_⟩
    · have e1 : ((i + 1 : Nat) : Int) = (i : Int) + 1 := by omega
      rw [e1]; exact he'
    · have hb' : c < s.heap.objs.size := by
        have e' : c = e ∨ c = it := by simpa using hb
        rcases e' with z | z
        · rw [z]; exact hel
        · rw [z]; exact hil
      rw [upd_ne (Nat.ne_of_lt hb')]
      exact (hf c hb).1
  done := by
    intro X hP hw hK hc i pins s σ H E I hf st hg
    subst hP hw hK
    obtain ⟨⟨old, he⟩, hit, hne, hai, hea⟩ := st
    obtain ⟨ys, hq, hx⟩ := hg
    obtain ⟨its, rv, p, hz⟩ := I.tuple hq
    have p : s.heap.IsTuple a its.toArray := p
    obtain ⟨f0, f1, f2, f3, f4, f5⟩ := hf it (by simp)
    have hl := rv.length
    obtain ⟨oi, qi, ci, di⟩ := id hit
    have ei : i = its.toArray.size := by simp; omega
    subst ei
    exact wpAny_pyNext_enum_endD (Draws.tuple (A := X.A.in1) (I.ok.hd hc) it a hai its.toArray) he ⟨hit, p⟩ fun h' eb => ⟨rfl, I.turned (t' := s.toks) (fun b o hb q => eb b o hb q) f0 f1 f3 f4 f5⟩
  self := fun A i s Q E st h => let ⟨⟨_, he⟩, _⟩ := st; wpAny_pyIter_enum he h
def iEn (K : PySem.W.Frag) (ta : TA) : TI := fun σ H R => ta σ H fun vs H1 => ∃ a xs, vs = [.ref a] ∧ ((SqL K H1 a xs ∧ R (Ite K a) H1) ∨ (SqT K H1 a xs ∧ R (IteT K a) H1))
theorem pi_en {X : Cx} {e : Expr} {ta : TA} {p pos tpos : Pos} {elts : List Expr} {kk : Nat} (hg : Gl X "enumerate") (hm : X.mg "enumerate" = none) (ha : PA X [e] ta) (hs : starEach [e] X.env = [(false, eval e X.env)]) :
    PI X (.Tuple elts kk tpos) (.Call (.Name "enumerate" p) [e] [] pos) (iEn X.K ta) := by
  refine ⟨fun pins s σ H R I h => ?_⟩
  refine Call_ (ld_blt I hg hm boot_enumerate (PyProof.Rows.callWith_type1 (thn (ha.run pos pins s σ H _ I h) fun us s1 ⟨vs, H1, I1, r1, q1⟩ => ?_) hs rfl))
  obtain ⟨a, xs, ex, q1⟩ := q1
  subst ex
  cases r1 with
  | cons r rr =>
    cases rr
    cases r
    have fr : ∀ b, b ∈ [s1.heap.objs.size + 1, s1.heap.objs.size] → FpOk X pins H1 b := fun b hb => by
      have e' : b = s1.heap.objs.size + 1 ∨ b = s1.heap.objs.size := by simpa using hb
      have hle : s1.heap.objs.size ≤ b := by
        rcases e' with z | z
        · rw [z]; exact Nat.le_add_right _ _
        · rw [z]; exact Nat.le_refl _
      exact I1.fpOk hle (I1.hok.fresh hle)
    rcases q1 with ⟨hq, q⟩ | ⟨hq, q⟩
    · obtain ⟨its, rv, p', hz⟩ := I1.list hq
      refine call_enumerate_list p'.isList fun h' he hit hsz hk => wpAny_pyIter_enum he ?_
      exact ⟨s1.heap.objs.size + 1, [s1.heap.objs.size + 1, s1.heap.objs.size], _, _, H1, rfl, I1.kept (t' := s1.toks) hk, turn_enum a (s1.heap.objs.size + 1) s1.heap.objs.size, ⟨⟨.none, he⟩, hit, Nat.succ_ne_self _⟩, fr, q⟩
    · obtain ⟨its, rv, p', hz⟩ := I1.tuple hq
      have p' : s1.heap.IsTuple a its.toArray := p'
      obtain ⟨oa, ha', _⟩ := id p'
      have la := Heap.lt_size ha'
      refine call_en1 (begins_tuple a its.toArray) p' fun h' he hit hk => wpAny_pyIter_enum he ?_
      exact ⟨s1.heap.objs.size + 1, [s1.heap.objs.size + 1, s1.heap.objs.size], _, _, H1, rfl, I1.kept (t' := s1.toks) hk, turn_enumT a (s1.heap.objs.size + 1) s1.heap.objs.size,
        ⟨⟨.none, he⟩, ⟨_, hit, rfl, rfl⟩, Nat.succ_ne_self _, Nat.ne_of_lt la, Nat.ne_of_gt (Nat.lt_succ_of_lt la)⟩, fr, q⟩
end QE

set_option Elab.async false
set_option linter.all false
set_option maxRecDepth 10000
set_option maxHeartbeats 1000000
/-! What a loop walks: sources. Hidden addresses. -/
namespace QE
open PySem PySem.Spec PyProof.Rows L2
section
variable {K : PySem.W.Frag} {hid ρ : List Addr} {H : Hp} {D : Addr}
/-! ### one address more is hidden -/
theorem ne_D (h : H D = none) {a : Addr} {u : HO} (q : H a = some u) : a ≠ D := fun z => by rw [z, h] at q; cases q
mutual
theorem Rep.hide (hd : H D = none) : ∀ (x : Val) (v : V), Rep K hid ρ H x v → Rep K (D :: hid) ρ H x v
  | .non, v, h => by simp only [Rep] at h ⊢; exact h
  | .bl b, v, h => by simp only [Rep] at h ⊢; exact h
  | .int i, v, h => by simp only [Rep] at h ⊢; exact h
  | .str s, v, h => by simp only [Rep] at h ⊢; exact h
  | .tup xs, v, h => by
    simp only [Rep] at h ⊢
    obtain ⟨a, vs, h1, h2, h3⟩ := h
    exact ⟨a, vs, h1, h2, RepL.hide hd xs vs h3⟩
  | .lst f xs, v, h => by
    simp only [Rep] at h ⊢
    obtain ⟨a, vs, h1, h2, h3, h4, h5⟩ := h
    obtain ⟨u, hu, _⟩ := rd_there ntL h2.rd
    exact ⟨a, vs, h1, h2, h3, by simp [h4, ne_D hd hu], RepL.hide hd xs vs h5⟩
  | .dic f true kvs, v, h => by
    simp only [Rep] at h ⊢
    obtain ⟨a, vs, h1, h2, h3, h4, h5⟩ := h
    exact ⟨a, vs, h1, h2, h3, by simp [h4, ne_D hd h2], RepT.hide hd kvs vs h5⟩
  | .dic f false kvs, v, h => by
    simp only [Rep] at h ⊢
    obtain ⟨a, vs, h1, h2, h3, h4, h5⟩ := h
    exact ⟨a, vs, h1, h2, h3, by simp [h4, ne_D hd h2], RepK.hide hd kvs vs h5⟩
  | .ref n, v, h => by simp only [Rep] at h ⊢; exact h
  | .kls ns, v, h => by simp only [Rep] at h ⊢; exact h
  | .fn _ _, v, h => by simp only [Rep] at h ⊢; exact h
  | .exn _ _, v, h => by simp only [Rep] at h ⊢; exact h
theorem RepL.hide (hd : H D = none) : ∀ (xs : List Val) (vs : List V), RepL K hid ρ H xs vs → RepL K (D :: hid) ρ H xs vs
  | [], vs, h => by simp only [RepL] at h ⊢; exact h
  | x :: xs, vs, h => by
    simp only [RepL] at h ⊢
    obtain ⟨v, r, h1, h2, h3⟩ := h
    exact ⟨v, r, h1, ⟨h2.1, Rep.hide hd x v h2.2⟩, RepL.hide hd xs r h3⟩
theorem RepK.hide (hd : H D = none) : ∀ (xs : List (Val × Val)) (ws : List (L2.Key × V)), RepK K hid ρ H xs ws → RepK K (D :: hid) ρ H xs ws
  | [], vs, h => by simp only [RepK] at h ⊢; exact h
  | (k, x) :: xs, vs, h => by
    simp only [RepK] at h ⊢
    obtain ⟨v, r, h1, h4, h2, h3⟩ := h
    exact ⟨v, r, h1, h4, ⟨h2.1, Rep.hide hd x v h2.2⟩, RepK.hide hd xs r h3⟩
theorem RepT.hide (hd : H D = none) : ∀ (xs : List (Val × Val)) (ws : List (List L2.Key × V)), RepT K hid ρ H xs ws → RepT K (D :: hid) ρ H xs ws
  | [], vs, h => by simp only [RepT] at h ⊢; exact h
  | (k, x) :: xs, vs, h => by
    simp only [RepT] at h ⊢
    obtain ⟨v, r, h1, h4, h2, h3⟩ := h
    exact ⟨v, r, h1, h4, ⟨h2.1, Rep.hide hd x v h2.2⟩, RepT.hide hd xs r h3⟩
end
mutual
theorem Rep.seen : ∀ (x : Val) (v : V), Rep K (D :: hid) ρ H x v → Rep K hid ρ H x v
  | .non, v, h => by simp only [Rep] at h ⊢; exact h
  | .bl b, v, h => by simp only [Rep] at h ⊢; exact h
  | .int i, v, h => by simp only [Rep] at h ⊢; exact h
  | .str s, v, h => by simp only [Rep] at h ⊢; exact h
  | .tup xs, v, h => by
    simp only [Rep] at h ⊢
    obtain ⟨a, vs, h1, h2, h3⟩ := h
    exact ⟨a, vs, h1, h2, RepL.seen xs vs h3⟩
  | .lst f xs, v, h => by
    simp only [Rep] at h ⊢
    obtain ⟨a, vs, h1, h2, h3, h4, h5⟩ := h
    exact ⟨a, vs, h1, h2, h3, fun z => h4 (List.mem_cons_of_mem _ z), RepL.seen xs vs h5⟩
  | .dic f true kvs, v, h => by
    simp only [Rep] at h ⊢
    obtain ⟨a, vs, h1, h2, h3, h4, h5⟩ := h
    exact ⟨a, vs, h1, h2, h3, fun z => h4 (List.mem_cons_of_mem _ z), RepT.seen kvs vs h5⟩
  | .dic f false kvs, v, h => by
    simp only [Rep] at h ⊢
    obtain ⟨a, vs, h1, h2, h3, h4, h5⟩ := h
    exact ⟨a, vs, h1, h2, h3, fun z => h4 (List.mem_cons_of_mem _ z), RepK.seen kvs vs h5⟩
  | .ref n, v, h => by simp only [Rep] at h ⊢; exact h
  | .kls ns, v, h => by simp only [Rep] at h ⊢; exact h
  | .fn _ _, v, h => by simp only [Rep] at h ⊢; exact h
  | .exn _ _, v, h => by simp only [Rep] at h ⊢; exact h
theorem RepL.seen : ∀ (xs : List Val) (vs : List V), RepL K (D :: hid) ρ H xs vs → RepL K hid ρ H xs vs
  | [], vs, h => by simp only [RepL] at h ⊢; exact h
  | x :: xs, vs, h => by
    simp only [RepL] at h ⊢
    obtain ⟨v, r, h1, h2, h3⟩ := h
    exact ⟨v, r, h1, ⟨h2.1, Rep.seen x v h2.2⟩, RepL.seen xs r h3⟩
theorem RepK.seen : ∀ (xs : List (Val × Val)) (ws : List (L2.Key × V)), RepK K (D :: hid) ρ H xs ws → RepK K hid ρ H xs ws
  | [], vs, h => by simp only [RepK] at h ⊢; exact h
  | (k, x) :: xs, vs, h => by
    simp only [RepK] at h ⊢
    obtain ⟨v, r, h1, h4, h2, h3⟩ := h
    exact ⟨v, r, h1, h4, ⟨h2.1, Rep.seen x v h2.2⟩, RepK.seen xs r h3⟩
theorem RepT.seen : ∀ (xs : List (Val × Val)) (ws : List (List L2.Key × V)), RepT K (D :: hid) ρ H xs ws → RepT K hid ρ H xs ws
  | [], vs, h => by simp only [RepT] at h ⊢; exact h
  | (k, x) :: xs, vs, h => by
    simp only [RepT] at h ⊢
    obtain ⟨v, r, h1, h4, h2, h3⟩ := h
    exact ⟨v, r, h1, h4, ⟨h2.1, Rep.seen x v h2.2⟩, RepT.seen xs r h3⟩
end
theorem ObRep.hide (hd : H D = none) {a : Addr} : ∀ {o : Ob}, ObRep K hid ρ H a o → ObRep K (D :: hid) ρ H a o
  | .lst xs, ⟨vs, h1, h2⟩ => ⟨vs, h1, RepL.hide hd xs vs h2⟩
  | .dic true xs, ⟨vs, h1, h2⟩ => ⟨vs, h1, RepT.hide hd xs vs h2⟩
  | .dic false xs, ⟨vs, h1, h2⟩ => ⟨vs, h1, RepK.hide hd xs vs h2⟩
  | .tbl _ _, h => h
theorem ObRep.seen {a : Addr} : ∀ {o : Ob}, ObRep K (D :: hid) ρ H a o → ObRep K hid ρ H a o
  | .lst xs, ⟨vs, h1, h2⟩ => ⟨vs, h1, RepL.seen xs vs h2⟩
  | .dic true xs, ⟨vs, h1, h2⟩ => ⟨vs, h1, RepT.seen xs vs h2⟩
  | .dic false xs, ⟨vs, h1, h2⟩ => ⟨vs, h1, RepK.seen xs vs h2⟩
  | .tbl _ _, h => h
theorem SOk.hide {S : Sto} {o : HO} (s : SOk K hid ρ H S) (hd : H D = none) (no : NT o := by intro _ z; cases z) : SOk K (D :: hid) ρ (upd H D o) S := by
  have s' := s.new hd (o := o)
  refine ⟨s.len, s.nd, fun a ha => ?_, fun a ha => ?_, fun n ob q => ?_⟩
  · intro z
    rcases List.mem_cons.mp z with z | z
    · exact s.new1 hd (z ▸ ha)
    · exact s.apart a ha z
  · rcases List.mem_cons.mp ha with z | z
    · subst z; exact ⟨o, upd_same, no⟩
    · exact s'.hidd a z
  · obtain ⟨a, h1, h2⟩ := s.ob n ob q
    exact ⟨a, h1, (h2.hide hd).mono (Ext.new hd) (upd_ne fun z => s.new1 hd (z ▸ List.mem_of_getElem? h1))⟩
theorem SOk.seen {S : Sto} (s : SOk K (D :: hid) ρ H S) : SOk K hid ρ H S := by
  refine ⟨s.len, s.nd, fun a ha z => s.apart a ha (List.mem_cons_of_mem _ z), fun a ha => s.hidd a (List.mem_cons_of_mem _ ha), fun n ob q => ?_⟩
  obtain ⟨a, h1, h2⟩ := s.ob n ob q
  exact ⟨a, h1, h2.seen⟩
theorem ERep.hide {env : Env} {σ : L2.St} {o : HO} (h : ERep K hid ρ H env σ) (hd : H D = none) : ERep K (D :: hid) ρ (upd H D o) env σ := by
  refine ⟨h.len, fun i x q => ?_⟩
  obtain ⟨v, a, st, b⟩ := h.at_ i x q
  exact ⟨v, a, st, Rep.mono (Ext.new hd) x v (Rep.hide hd x v b)⟩
theorem ERep.seen {env : Env} {σ : L2.St} (h : ERep K (D :: hid) ρ H env σ) : ERep K hid ρ H env σ := by
  refine ⟨h.len, fun i x q => ?_⟩
  obtain ⟨v, a, st, b⟩ := h.at_ i x q
  exact ⟨v, a, st, Rep.seen x v b⟩

/-! ### what is walked -/
inductive WalkOk (K : PySem.W.Frag) (hid ρ : List Addr) (H : Hp) : List Val → It → Prop
  | list {a : Addr} {vs : List V} {xs : List Val} (h : Rd H a (.lst vs)) (ha : a ∉ ρ) (r : RepL K hid ρ H xs vs) : WalkOk K hid ρ H xs (Itl K a)
  | tup {a : Addr} {vs : List V} {xs : List Val} (h : H a = some (.tup vs)) (r : RepL K hid ρ H xs vs) : WalkOk K hid ρ H xs (Itt K a)
  | range {lo : Int} {n : Nat} : WalkOk K hid ρ H (rangeV lo n) (Itr lo n)
  | str {s : List Nat} : WalkOk K hid ρ H (s.map fun c => .str [c]) (Its (strOf s))
  | enumL {a : Addr} {vs : List V} {xs : List Val} (h : Rd H a (.lst vs)) (ha : a ∉ ρ) (r : RepL K hid ρ H xs vs) : WalkOk K hid ρ H (enumFrom 0 xs) (Ite K a)
  | enumT {a : Addr} {vs : List V} {xs : List Val} (h : H a = some (.tup vs)) (r : RepL K hid ρ H xs vs) : WalkOk K hid ρ H (enumFrom 0 xs) (IteT K a)
  | zipL {a b : Addr} {vs ws : List V} {xs ys : List Val} (h : Rd H a (.lst vs)) (ha : a ∉ ρ) (r : RepL K hid ρ H xs vs) (h' : Rd H b (.lst ws)) (hb : b ∉ ρ) (r' : RepL K hid ρ H ys ws) : WalkOk K hid ρ H (zipV xs ys) (Itz K a b)
  | zipT {a b : Addr} {vs ws : List V} {xs ys : List Val} (h : H a = some (.tup vs)) (r : RepL K hid ρ H xs vs) (h' : H b = some (.tup ws)) (r' : RepL K hid ρ H ys ws) : WalkOk K hid ρ H (zipV xs ys) (RZ.ItzT K a b)
theorem WalkOk.hide {xs : List Val} {J : It} {o : HO} (h : WalkOk K hid ρ H xs J) (hd : H D = none) : WalkOk K (D :: hid) ρ (upd H D o) xs J := by
  have e : Ext ρ H ρ (upd H D o) := Ext.new hd
  have rl : ∀ {xs : List Val} {vs : List V}, RepL K hid ρ H xs vs → RepL K (D :: hid) ρ (upd H D o) xs vs := fun {xs vs} r => RepL.mono e _ _ (RepL.hide hd xs vs r)
  cases h with
  | list h ha r => exact .list (e.rd ha h) ha (rl r)
  | tup h r => exact .tup (e.tups _ _ h) (rl r)
  | range => exact .range
  | str => exact .str
  | enumL h ha r => exact .enumL (e.rd ha h) ha (rl r)
  | enumT h r => exact .enumT (e.tups _ _ h) (rl r)
  | zipL h ha r h' hb r' => exact .zipL (e.rd ha h) ha (rl r) (e.rd hb h') hb (rl r')
  | zipT h r h' r' => exact .zipT (e.tups _ _ h) (rl r) (e.tups _ _ h') (rl r')
theorem rangeV_len : ∀ (lo : Int) (n : Nat), (rangeV lo n).length = n
  | _, 0 => rfl
  | lo, n + 1 => by simp [rangeV, rangeV_len]
theorem rangeV_get : ∀ (lo : Int) (n i : Nat), i < n → (rangeV lo n)[i]? = some (.int (lo + i))
  | lo, n + 1, 0, _ => by simp [rangeV]
  | lo, n + 1, i + 1, h => by
    simp only [rangeV, List.getElem?_cons_succ]
    rw [rangeV_get (lo + 1) n i (by omega)]
    congr 2
    push_cast
    omega
theorem enumFrom_len : ∀ (n : Nat) (xs : List Val), (enumFrom n xs).length = xs.length
  | _, [] => rfl
  | n, x :: xs => by simp [enumFrom, enumFrom_len]
theorem enumFrom_get : ∀ (n : Nat) (xs : List Val) (i : Nat) (x : Val), xs[i]? = some x → (enumFrom n xs)[i]? = some (.tup [.int ((n + i : Nat) : Int), x])
  | _, [], _, _, h => by simp at h
  | n, y :: xs, 0, x, h => by simp at h; subst h; simp [enumFrom]
  | n, y :: xs, i + 1, x, h => by
    simp only [enumFrom, List.getElem?_cons_succ] at h ⊢
    rw [enumFrom_get (n + 1) xs i x h]
    congr 4
    omega
theorem zipV_len : ∀ (xs ys : List Val), (zipV xs ys).length = min xs.length ys.length
  | [], _ => by simp [zipV]
  | _ :: _, [] => by simp [zipV]
  | x :: xs, y :: ys => by simp only [zipV, List.length_cons, zipV_len xs ys]; omega
theorem zipV_get : ∀ (xs ys : List Val) (i : Nat) (x y : Val), xs[i]? = some x → ys[i]? = some y → (zipV xs ys)[i]? = some (.tup [x, y])
  | [], _, _, _, _, h, _ => by simp at h
  | _ :: _, [], _, _, _, _, h => by simp at h
  | a :: xs, b :: ys, 0, x, y, h1, h2 => by simp at h1 h2; subst h1 h2; simp [zipV]
  | a :: xs, b :: ys, i + 1, x, y, h1, h2 => by
    simp only [zipV, List.getElem?_cons_succ] at h1 h2 ⊢
    exact zipV_get xs ys i x y h1 h2
theorem RepL.nth {xs : List Val} {vs : List V} {i : Nat} {v : V} (r : RepL K hid ρ H xs vs) (h : vs[i]? = some v) : ∃ x, xs[i]? = some x ∧ x.st = true ∧ Rep K hid ρ H x v := by
  have hl := r.length
  have lt := (List.getElem?_eq_some_iff.mp h).1
  have q : xs[i]? = some xs[i] := List.getElem?_eq_getElem (by omega)
  obtain ⟨w, h1, h2⟩ := r.get q
  rw [h] at h1
  cases h1
  exact ⟨_, q, h2⟩
/-- the i-th turn -/
def YR (K : PySem.W.Frag) (hid ρ : List Addr) (H : Hp) (xs : List Val) : Nat → Hp → V → Hp → Prop := fun i H2 v H3 => ∀ ρ2 S, Ext ρ H ρ2 H2 → SOk K hid ρ2 H2 S →
  ∃ x, xs[i]? = some x ∧ Ext ρ2 H2 ρ2 H3 ∧ SOk K hid ρ2 H3 S ∧ x.st = true ∧ Rep K hid ρ2 H3 x v
theorem yr_same {xs ys : List Val} {vs : List V} (r : RepL K hid ρ H ys vs) (f : ∀ (i : Nat) (x : Val), ys[i]? = some x → xs[i]? = some x) {i : Nat} {H2 H3 : Hp} {v : V} (y : H3 = H2 ∧ vs[i]? = some v) : YR K hid ρ H xs i H2 v H3 := by
  intro ρ2 S e s
  obtain ⟨e1, q⟩ := y
  subst e1
  obtain ⟨x, h1, h2, h3⟩ := r.nth q
  exact ⟨x, f i x h1, Ext.refl _ _, s, h2, Rep.mono e x v h3⟩
theorem yr_pair {xs : List Val} {i : Nat} {H2 H3 : Hp} {v a b : V} {x y : Val} {T : Addr} (hv : v = .ref T) (hT : H2 T = none) (hH : H3 = upd H2 T (.tup [a, b])) (hx : xs[i]? = some (.tup [x, y])) (ra : x.st = true ∧ Rep K hid ρ H x a) (rb : y.st = true ∧ Rep K hid ρ H y b) : YR K hid ρ H xs i H2 v H3 := by
  intro ρ2 S e s
  subst hv hH
  exact ⟨_, hx, Ext.new hT, s.new hT, rfl, rep_newT hT (.cons ⟨ra.1, Rep.mono e _ _ ra.2⟩ (.cons ⟨rb.1, Rep.mono e _ _ rb.2⟩ .nil))⟩
theorem WalkOk.walk {xs : List Val} {J : It} (h : WalkOk K hid ρ H xs J) : Walk J xs.length (fun H2 => ∃ ρ2, Ext ρ H ρ2 H2) (YR K hid ρ H xs) := by
  cases h with
  | list h ha r =>
    rw [← r.length]
    exact walk_list.mono (fun H2 ⟨ρ2, e⟩ => .inl (e.rd ha h)) fun i H2 v H3 hi _ y => yr_same r (fun _ _ q => q) y
  | tup h r =>
    rw [← r.length]
    exact walk_tup.mono (fun H2 ⟨ρ2, e⟩ => SqT.of (e.tups _ _ h)) fun i H2 v H3 hi _ y => yr_same r (fun _ _ q => q) y
  | @range lo n =>
    rw [rangeV_len]
    refine walk_range.mono (fun H2 _ => trivial) fun i H2 v H3 hi _ y => ?_
    intro ρ2 S e s
    obtain ⟨e1, e2⟩ := y
    subst e1 e2
    exact ⟨_, rangeV_get lo n i hi, Ext.refl _ _, s, rfl, .of_int⟩
  | @str z =>
    have hz : (strOf z).cps.size = (z.map fun c => Val.str [c]).length := by simp [strOf]
    rw [← hz]
    refine walk_str.mono (fun H2 _ => trivial) fun i H2 v H3 hi _ y => ?_
    intro ρ2 S e s
    obtain ⟨e1, ch, e2, e3⟩ := y
    subst e1 e3
    have q : z[i]? = some ch := by simpa [strOf] using e2
    refine ⟨.str [ch], by simp [q], Ext.refl _ _, s, rfl, ?_⟩
    simp only [Rep, strOf]
  | enumL h ha r =>
    rw [enumFrom_len, ← r.length]
    refine walk_enum.mono (fun H2 ⟨ρ2, e⟩ => .inl (e.rd ha h)) fun i H2 v H3 hi _ y => ?_
    obtain ⟨T, a, b, h1, h2, h3, h4, h5⟩ := y
    cases h4
    obtain ⟨x, q1, q2⟩ := r.nth h5
    have q3 := enumFrom_get 0 _ _ _ q1
    rw [Nat.zero_add] at q3
    exact yr_pair h1 h2 h3 q3 ⟨rfl, .of_int⟩ q2
  | @enumT a0 vs0 ys h r =>
    rw [enumFrom_len, ← r.length]
    have W : Walk (IteT K a0) vs0.length (fun H => SqT K H a0 vs0) (YPair (fun i => some (.int (i : Nat))) (fun i => vs0[i]?)) := by
      refine ⟨fun i _ hi q => ⟨vs0, vs0[i], q, by simp [hi]⟩, fun _ q => ⟨vs0, q, rfl⟩, fun i H v H' _ q y => ?_⟩
      obtain ⟨T, x, h1, h2, h3, h4⟩ := y
      exact ⟨T, .int (i : Nat), x, h1, h2, h3, rfl, h4 vs0 q⟩
    refine W.mono (fun H2 ⟨ρ2, e⟩ => SqT.of (e.tups _ _ h)) fun i H2 v H3 hi _ y => ?_
    obtain ⟨T, a, b, h1, h2, h3, h4, h5⟩ := y
    cases h4
    obtain ⟨x, q1, q2⟩ := r.nth h5
    have q3 := enumFrom_get 0 _ _ _ q1
    rw [Nat.zero_add] at q3
    exact yr_pair h1 h2 h3 q3 ⟨rfl, .of_int⟩ q2
  | zipL h ha r h' hb r' =>
    have hn := zipV_len
    rw [zipV_len, ← r.length, ← r'.length]
    refine (walk_zip rfl).mono (fun H2 ⟨ρ2, e⟩ => ⟨.inl (e.rd ha h), .inl (e.rd hb h')⟩) fun i H2 v H3 hi _ y => ?_
    obtain ⟨T, a, b, h1, h2, h3, h4, h5⟩ := y
    obtain ⟨x, q1, q2⟩ := r.nth h4
    obtain ⟨x', q1', q2'⟩ := r'.nth h5
    exact yr_pair h1 h2 h3 (zipV_get _ _ _ _ _ q1 q1') q2 q2'
  | @zipT a0 b0 vs0 ws0 xs0 ys0 h r h' r' =>
    rw [zipV_len, ← r.length, ← r'.length]
    have W : Walk (RZ.ItzT K a0 b0) (min vs0.length ws0.length) (fun H => SqT K H a0 vs0 ∧ SqT K H b0 ws0) (YPair (fun i => vs0[i]?) (fun i => ws0[i]?)) := by
      refine ⟨fun i _ hi q => ?_, fun _ q => ⟨vs0, ws0, q.1, q.2, by omega⟩, fun i H v H' _ q y => ?_⟩
      · exact ⟨vs0, ws0, vs0[i]'(by omega), ws0[i]'(by omega), q.1, q.2, by simp, by simp⟩
      · obtain ⟨T, x, z, h1, h2, h3, h4, h5⟩ := y
        exact ⟨T, x, z, h1, h2, h3, h4 vs0 q.1, h5 ws0 q.2⟩
    refine W.mono (fun H2 ⟨ρ2, e⟩ => ⟨SqT.of (e.tups _ _ h), SqT.of (e.tups _ _ h')⟩) fun i H2 v H3 hi _ y => ?_
    obtain ⟨T, a, b, h1, h2, h3, h4, h5⟩ := y
    obtain ⟨x, q1, q2⟩ := r.nth h4
    obtain ⟨x', q1', q2'⟩ := r'.nth h5
    exact yr_pair h1 h2 h3 (zipV_get _ _ _ _ _ q1 q1') q2 q2'
end

/-! ### sources -/
def tI (K : PySem.W.Frag) (c : Ctx) (src : Src) : TI := fun σ H R => ∃ hid ρ env S, ERep K hid ρ H env σ ∧ SOk K hid ρ H S ∧
  Out K hid ρ H (evalSrc c src env S) fun xs _ ρ' H' => ∀ J, WalkOk K hid ρ' H' xs J → R J H'
section
variable {X : Cx} {c : Ctx} {pos : Pos} {tg xa xb : Expr} {ea eb : E}
theorem Out.some {K : PySem.W.Frag} {hid ρ : List Addr} {H : Hp} {α β : Type} {o : Option α} {S : Sto} {f : α → Sto → R β} {G : β → Sto → List Addr → Hp → Prop} (h : Out K hid ρ H ((R.of o S).bind f) G) : ∃ a, o = some a ∧ Out K hid ρ H (f a S) G := by
  cases o with
  | none => exact h.elim
  | some a => exact ⟨a, rfl, h⟩
theorem i_it (ha : PE X xa (tE X.K c ea)) : PI X tg xa (tI X.K c (.it ea)) := by
  refine ⟨fun pins s σ H R I h => ?_⟩
  obtain ⟨hid, ρ, env, S, hE, hs, h⟩ := h
  simp only [evalSrc] at h
  obtain ⟨x, S1, q, hk⟩ := h.bind
  obtain ⟨xs, hw, _⟩ := (hk ρ H (Ext.refl _ _)).of
  have hk' : ∀ ρ1 H1, Ext ρ H ρ1 H1 → SOk X.K hid ρ1 H1 S1 → ∀ J, WalkOk X.K hid ρ1 H1 xs J → R J H1 := fun ρ1 H1 e1 s1 => by
    have := hk ρ1 H1 e1
    rw [hw] at this
    exact this.pure s1
  cases x with
  | tup ys =>
    cases hw
    refine (pi_tup ha).run pins s σ H R I ⟨hid, ρ, env, S, hE, hs, ?_⟩
    rw [q]
    intro ρ1 H1 e1 s1 v r fr
    simp only [Rep] at r
    obtain ⟨a, vs, h1, h2, h3⟩ := r
    exact ⟨a, h1, ⟨vs, SqT.of h2⟩, hk' ρ1 H1 e1 s1 _ (.tup h2 h3)⟩
  | lst f ys =>
    cases hw
    refine (pi_list ha).run pins s σ H R I ⟨hid, ρ, env, S, hE, hs, ?_⟩
    rw [q]
    intro ρ1 H1 e1 s1 v r fr
    simp only [Rep] at r
    obtain ⟨a, vs, h1, h2, h3, h4, h5⟩ := r
    exact ⟨a, h1, ⟨vs, .inl h2.rd⟩, hk' ρ1 H1 e1 s1 _ (.list h2.rd h3 h5)⟩
  | str z =>
    cases hw
    refine (pi_str ha).run pins s σ H R I ⟨hid, ρ, env, S, hE, hs, ?_⟩
    rw [q]
    intro ρ1 H1 e1 s1 v r fr
    simp only [Rep] at r
    exact ⟨strOf z, r, hk' ρ1 H1 e1 s1 _ .str⟩
  | _ => cases hw
theorem asInt_out {K : PySem.W.Frag} {hid ρ : List Addr} {H : Hp} {β : Type} {x : Val} {S : Sto} {f : Int → Sto → R β} {G : β → Sto → List Addr → Hp → Prop} (h : Out K hid ρ H ((asInt x S).bind f) G) : ∃ i, x = .int i ∧ Out K hid ρ H (f i S) G := by
  cases x <;> first | exact h.elim | exact ⟨_, rfl, h⟩
theorem i_rng1 {x : Str} {p : Pos} (ex : x = PySem.Str.ofString "range") (hg : Gl X x) (hm : X.mg x = none) (ha : PE X xa (tE X.K c ea)) (hp : plainE xa = true) : PI X tg (.Call (.Name x p) [xa] [] pos) (tI X.K c (.rng1 ea)) := by
  subst ex
  refine PI.imp (pi_range1 hg hm (a_cons ha a_nil hp) (star_cons hp _ _)) fun σ H R h => ?_
  obtain ⟨hid, ρ, env, S, hE, hs, h⟩ := h
  simp only [evalSrc] at h
  refine ⟨hid, ρ, env, S, hE, hs, ?_⟩
  simp only [evalEs]
  obtain ⟨v, S1, q, hk⟩ := h.bind
  rw [q]
  intro ρ1 H1 e1 s1 vs rs
  obtain ⟨i, ev, h2⟩ := asInt_out (hk ρ1 H1 e1)
  subst ev
  obtain ⟨v, ev, r⟩ := RepL.one rs
  subst ev
  cases r.int_
  unfold rangeOf at h2
  split at h2
  · rename_i hb
    refine ⟨i, rfl, hb.2.2.1, hb.2.2.2, ?_⟩
    have := h2.pure s1 (Itr 0 (i - 0).toNat) .range
    rw [Int.sub_zero] at this
    exact this
  · exact h2.elim
theorem i_rng2 {x : Str} {p : Pos} (ex : x = PySem.Str.ofString "range") (hg : Gl X x) (hm : X.mg x = none) (ha : PE X xa (tE X.K c ea)) (hp : plainE xa = true) (hb : PE X xb (tE X.K c eb)) (hp2 : plainE xb = true) : PI X tg (.Call (.Name x p) [xa, xb] [] pos) (tI X.K c (.rng2 ea eb)) := by
  subst ex
  refine PI.imp (pi_range2 hg hm (pa_cons ha (pa_cons hb pa_nil (star_cons hp2 _ _)) (star_cons hp _ _)) (by rw [star_cons hp, star_cons hp2]; rfl) (star_cons hp2 _ _)) fun σ H R h => ?_
  obtain ⟨hid, ρ, env, S, hE, hs, h⟩ := h
  simp only [evalSrc] at h
  refine tE.of hE hs h fun v S1 ρ1 H1 u e1 s1 r1 f1 h1 => ?_
  obtain ⟨i, ev, h1⟩ := asInt_out h1
  subst ev
  refine tE.of (hE.mono e1) s1 h1 fun w S2 ρ2 H2 u2 e2 s2 r2 f2 h2 => ?_
  obtain ⟨j, ev, h9⟩ := asInt_out h2
  subst ev
  cases r1.int_
  cases r2.int_
  unfold rangeOf at h9
  split at h9
  · rename_i hb
    exact ⟨i, j, rfl, hb, h9.pure s2 _ .range⟩
  · exact h9.elim
theorem i_enum {x : Str} {p tpos : Pos} {elts : List Expr} {kk : Nat} (ex : x = PySem.Str.ofString "enumerate") (hg : Gl X x) (hm : X.mg x = none) (ha : PE X xa (tE X.K c ea)) (hp : plainE xa = true) : PI X (.Tuple elts kk tpos) (.Call (.Name x p) [xa] [] pos) (tI X.K c (.enum ea)) := by
  subst ex
  refine PI.imp (pi_en hg hm (pa_cons ha pa_nil (star_cons hp _ _)) (star_cons hp _ _)) fun σ H R h => ?_
  obtain ⟨hid, ρ, env, S, hE, hs, h⟩ := h
  simp only [evalSrc] at h
  refine tE.of hE hs h fun v S1 ρ1 H1 u e1 s1 r1 f1 h1 => ?_
  obtain ⟨xs, hw, h2⟩ := h1.some
  cases v with
  | tup ys =>
    cases hw
    simp only [Rep] at r1
    obtain ⟨a, vs, q1, q2, q3⟩ := r1
    subst q1
    exact ⟨a, vs, rfl, .inr ⟨SqT.of q2, h2.pure s1 _ (.enumT q2 q3)⟩⟩
  | lst f ys =>
    cases hw
    simp only [Rep] at r1
    obtain ⟨a, vs, q1, q2, q3, q4, q5⟩ := r1
    subst q1
    exact ⟨a, vs, rfl, .inl ⟨.inl q2.rd, h2.pure s1 _ (.enumL q2.rd q3 q5)⟩⟩
  | _ => cases hw
theorem i_zip {x : Str} {p tpos : Pos} {elts : List Expr} {kk : Nat} (ex : x = PySem.Str.ofString "zip") (hg : Gl X x) (hm : X.mg x = none) (ha : PE X xa (tE X.K c ea)) (hp : plainE xa = true) (hb : PE X xb (tE X.K c eb)) (hp2 : plainE xb = true) :
    PI X (.Tuple elts kk tpos) (.Call (.Name x p) [xa, xb] [] pos) (tI X.K c (.zip ea eb)) := by
  subst ex
  refine PI.imp (RZ.pi_zipA hg hm (pa_cons ha (pa_cons hb pa_nil (star_cons hp2 _ _)) (star_cons hp _ _)) (star_cons hp _ _) (star_none _ _ _ (by simp [hp2]))) fun σ H R h => ?_
  obtain ⟨hid, ρ, env, S, hE, hs, h⟩ := h
  simp only [evalSrc] at h
  refine tE.of hE hs h fun v S1 ρ1 H1 u e1 s1 r1 f1 h1 => ?_
  refine tE.of (hE.mono e1) s1 h1 fun w S2 ρ2 H2 u2 e2 s2 r2 f2 h2 => ?_
  obtain ⟨pq, hw, h3⟩ := h2.some
  unfold twoOf at hw
  split at hw
  · rename_i ys zs
    cases hw
    have r1 := Rep.mono e2 _ _ r1
    simp only [Rep] at r1 r2
    obtain ⟨a, vs, q1, q2, q3⟩ := r1
    obtain ⟨b, ws, k1, k2, k3⟩ := r2
    subst q1 k1
    exact ⟨a, b, vs, ws, rfl, .inr ⟨SqT.of q2, SqT.of k2, h3.pure s2 _ (.zipT q2 q3 k2 k3)⟩⟩
  · rename_i f1 ys f2 zs
    cases hw
    have r1 := Rep.mono e2 _ _ r1
    simp only [Rep] at r1 r2
    obtain ⟨a, vs, q1, q2, q3, q4, q5⟩ := r1
    obtain ⟨b, ws, k1, k2, k3, k4, k5⟩ := r2
    subst q1 k1
    exact ⟨a, b, vs, ws, rfl, .inl ⟨.inl q2.rd, .inl k2.rd, h3.pure s2 _ (.zipL q2.rd q3 q5 k2.rd k3 k5)⟩⟩
  · cases hw
end
end QE

set_option Elab.async false
set_option linter.all false
set_option maxRecDepth 10000
set_option maxHeartbeats 1000000
/-! Targets; statements' readings; for and while. -/
namespace QE
open PySem PySem.Spec PyProof.Rows L2

/-! ### targets -/
mutual
def tgN : T → List Nat
  | .name i => [i]
  | .tup ts => tgNs ts
def tgNs : List T → List Nat
  | [] => []
  | t :: ts => tgN t ++ tgNs ts
end
theorem wipe_get (σ : L2.St) (j : Nat) : ∀ vs : List Nat, (L2.wipe σ vs)[j]? = if j ∈ vs then (σ[j]?).map (fun _ => none) else σ[j]?
  | [] => by simp [L2.wipe]
  | v :: vs => by
    unfold L2.wipe
    rw [List.getElem?_set, wipe_get σ j vs]
    by_cases h : v = j
    · subst h
      simp only [if_true, List.mem_cons, true_or, L2.wipe_length]
      by_cases hl : v < σ.length
      · simp [hl]
      · simp [hl, List.getElem?_eq_none (by omega : σ.length ≤ v)]
    · have : ¬ j = v := fun z => h z.symm
      simp [h, this]
theorem wipe_set {σ : L2.St} {i : Nat} {z : Option V} {vs : List Nat} (h : i ∈ vs) : L2.wipe (σ.set i z) vs = L2.wipe σ vs := by
  apply List.ext_getElem?
  intro j
  rw [wipe_get, wipe_get]
  by_cases hj : i = j
  · subst hj
    simp only [h, if_true, List.getElem?_set_self']
    cases σ[i]? <;> rfl
  · rw [List.getElem?_set_ne hj]
def tG (K : PySem.W.Frag) (tg : T) : TG := fun v σ H Q => ∃ hid ρ env S x env', ERep K hid ρ H env σ ∧ SOk K hid ρ H S ∧ Rep K hid ρ H x v ∧ bindT tg x env = some env' ∧
  ∀ σ', ERep K hid ρ H env' σ' → (∀ vs, (∀ i ∈ tgN tg, i ∈ vs) → L2.wipe σ' vs = L2.wipe σ vs) → Q σ' H
def tGs (K : PySem.W.Frag) (ts : List T) : TGs := fun vs σ H Q => ∃ hid ρ env S xs env', ERep K hid ρ H env σ ∧ SOk K hid ρ H S ∧ RepL K hid ρ H xs vs ∧ bindTs ts xs env = some env' ∧
  ∀ σ', ERep K hid ρ H env' σ' → (∀ vs, (∀ i ∈ tgNs ts, i ∈ vs) → L2.wipe σ' vs = L2.wipe σ vs) → Q σ' H
theorem PGs.imp {X : Cx} {e : List Expr} {t t' : TGs} (h : PGs X e t) (k : ∀ v σ H Q, t' v σ H Q → t v σ H Q) : PGs X e t' := ⟨fun pins s σ H v u Q I r q => h.run pins s σ H v u Q I r (k v σ H Q q)⟩
section
variable {X : Cx} {pos : Pos}
theorem g_name {i : Nat} {x : Str} (hN : X.N.Nodup) (hi : X.N[i]? = some x) (hx : Loc X.env.scope x) (hf : X.fn x = true ∨ X.env.scope.names.lookup x = some .local) : PG X (.Name x pos) (tG X.K (.name i)) := by
  refine PG.imp (pg_name hN hi hx hf) fun v σ H Q h => ?_
  obtain ⟨hid, ρ, env, S, y, env', hE, hs, r, b, q⟩ := h
  simp only [bindT, Option.some.injEq] at b
  subst b
  exact q _ (hE.set i (st_settle y) r.settle) fun vs hm => wipe_set (hm i (by simp [tgN]))
def plainG : Expr → Bool
  | .Starred _ _ => false
  | _ => true
theorem each_cons {e : Expr} (h : plainG e = true) (es : List Expr) (env : PySem.Env) : assignEach (e :: es) env = (false, assign e env) :: assignEach es env := by
  cases e <;> first | rfl | cases h
theorem each_len (env : PySem.Env) : ∀ es : List Expr, es.all plainG = true → (assignEach es env).length = es.length ∧ (assignEach es env).findIdx? (·.1) = none
  | [], _ => ⟨rfl, rfl⟩
  | e :: es, h => by
    simp only [List.all_cons, Bool.and_eq_true] at h
    rw [each_cons h.1]
    obtain ⟨h1, h2⟩ := each_len env es h.2
    refine ⟨by simp [h1], ?_⟩
    simp [List.findIdx?_cons, h2]
theorem gs_nil : PGs X [] (tGs X.K []) := by
  refine PGs.imp pgs_nil fun v σ H Q h => ?_
  obtain ⟨hid, ρ, env, S, xs, env', hE, hs, r, b, q⟩ := h
  cases xs with
  | nil =>
    simp only [bindTs, Option.some.injEq] at b
    subst b
    simp only [RepL] at r
    exact ⟨r, q σ hE fun _ _ => rfl⟩
  | cons x xs => simp [bindTs] at b
theorem gs_cons {e : Expr} {es : List Expr} {t : T} {ts : List T} (h1 : PG X e (tG X.K t)) (h2 : PGs X es (tGs X.K ts)) (hp : plainG e = true) : PGs X (e :: es) (tGs X.K (t :: ts)) := by
  refine PGs.imp (pgs_cons h1 h2 (by rw [each_cons hp]; rfl)) fun v σ H Q h => ?_
  obtain ⟨hid, ρ, env, S, xs, env', hE, hs, r, b, q⟩ := h
  cases xs with
  | nil => simp [bindTs] at b
  | cons x xs =>
    simp only [RepL] at r
    obtain ⟨v1, vr, ev, rx, rr⟩ := r
    simp only [bindTs] at b
    split at b
    · rename_i env1 hb
      refine ⟨v1, vr, ev, hid, ρ, env, S, x, env1, hE, hs, rx.2, hb, fun σ1 hE1 w1 => ?_⟩
      refine ⟨hid, ρ, env1, S, xs, env', hE1, hs, rr, b, fun σ2 hE2 w2 => q σ2 hE2 fun vs hm => ?_⟩
      simp only [tgNs, List.mem_append] at hm
      rw [w2 vs fun i hi => hm i (.inr hi), w1 vs fun i hi => hm i (.inl hi)]
    · cases b
theorem bindTs_len : ∀ {ts : List T} {xs : List Val} {env env' : Env}, bindTs ts xs env = some env' → xs.length = ts.length
  | [], [], _, _, _ => rfl
  | [], _ :: _, _, _, h => by simp [bindTs] at h
  | _ :: _, [], _, _, h => by simp [bindTs] at h
  | t :: ts, x :: xs, env, env', h => by
    simp only [bindTs] at h
    split at h
    · simp only [List.length_cons, bindTs_len h]
    · cases h
theorem g_tup {es : List Expr} {ts : List T} {k : Nat} (hc : X.calm = true) (h : PGs X es (tGs X.K ts)) (hp : es.all plainG = true) (hl : es.length = ts.length) : PG X (.Tuple es k pos) (tG X.K (.tup ts)) := by
  obtain ⟨h1, h2⟩ := each_len X.env es hp
  refine PG.imp (pg_tup (n := es.length) hc h h1 h2) fun v σ H Q hh => ?_
  obtain ⟨hid, ρ, env, S, x, env', hE, hs, r, b, q⟩ := hh
  cases x with
  | tup xs =>
    simp only [Rep] at r
    obtain ⟨a, vs, ev, ha, rl⟩ := r
    simp only [bindT] at b
    refine ⟨a, vs, ev, SqT.of ha, ?_, hid, ρ, env, S, xs, env', hE, hs, rl, b, q⟩
    rw [rl.length, hl]
    exact bindTs_len b
  | _ => simp [bindT] at b

/-! ### statements' readings -/
def Fin (K : PySem.W.Frag) (hid : List Addr) (H : Hp) (D : Ends) : Fl × Env → Sto → List Addr → Hp → Prop := fun f S' ρ' H' => match f.1 with
  | .nx => ∀ σ', ERep K hid ρ' H' f.2 σ' → D.nx σ' H'
  | .bk => ∀ σ', ERep K hid ρ' H' f.2 σ' → D.bk σ' H'
  | .ct => ∀ σ', ERep K hid ρ' H' f.2 σ' → D.ct σ' H'
  | .rt v => ∀ u, Rep K hid ρ' H' v u → Fresh K hid ρ' H' S' H v u → D.rt u H'
theorem Fin.anti {K : PySem.W.Frag} {hid ρ ρ1 ρ2 : List Addr} {H H1 H2 : Hp} {D : Ends} {f : Fl × Env} {S : Sto} (e : Ext ρ H ρ1 H1) (h : Fin K hid H D f S ρ2 H2) : Fin K hid H1 D f S ρ2 H2 := by
  unfold Fin at h ⊢
  split at h
  · exact h
  · exact h
  · exact h
  · exact fun u r fr => h u r (fr.anti e)
section
variable {K : PySem.W.Frag} {hid ρ ρ1 : List Addr} {H H1 : Hp} {α β : Type} {GX GX' : Nat → Sto → List Addr → Hp → Prop}
theorem tE.ofS {c : Ctx} {e : E} {env : Env} {S : Sto} {σ : L2.St} {f : Val → Sto → R β} {G : β → Sto → List Addr → Hp → Prop} {Q : VK}
    (he : ERep K hid ρ H env σ) (hs : SOk K hid ρ H S) (h : OutS K hid ρ H ((evalE c e env S).calm.bind f) G GX)
    (k : ∀ x S1 ρ1 H1 v, Ext ρ H ρ1 H1 → SOk K hid ρ1 H1 S1 → Rep K hid ρ1 H1 x v → Fresh K hid ρ1 H1 S1 H x v → OutS K hid ρ1 H1 (f x S1) G GX → Q v H1) : tE K c e σ H Q := by
  obtain ⟨x, S1, q, hk⟩ := h.bind
  refine ⟨hid, ρ, env, S, he, hs, ?_⟩
  rw [q]
  exact fun ρ1 H1 e1 s1 v r fr => k x S1 ρ1 H1 v e1 s1 r fr (hk ρ1 H1 e1)
theorem tEs.ofS {c : Ctx} {es : List E} {env : Env} {S : Sto} {σ : L2.St} {f : List Val → Sto → R β} {G : β → Sto → List Addr → Hp → Prop} {Q : List V → Hp → Prop}
    (he : ERep K hid ρ H env σ) (hs : SOk K hid ρ H S) (h : OutS K hid ρ H ((evalEs c es env S).calm.bind f) G GX)
    (k : ∀ xs S1 ρ1 H1 vs, Ext ρ H ρ1 H1 → SOk K hid ρ1 H1 S1 → RepL K hid ρ1 H1 xs vs → OutS K hid ρ1 H1 (f xs S1) G GX → Q vs H1) : tEs K c es σ H Q := by
  obtain ⟨x, S1, q, hk⟩ := h.bind
  refine ⟨hid, ρ, env, S, he, hs, ?_⟩
  rw [q]
  exact fun ρ1 H1 e1 s1 v r => k x S1 ρ1 H1 v e1 s1 r (hk ρ1 H1 e1)
theorem asBl_outS {x : Val} {S : Sto} {f : Bool → Sto → R β} {G : β → Sto → List Addr → Hp → Prop} (h : OutS K hid ρ H ((asBl x S).bind f) G GX) : ∃ b, x = .bl b ∧ OutS K hid ρ H (f b S) G GX := by
  cases x <;> first | exact h.elim | exact ⟨_, rfl, h⟩
theorem tT.ofS {c : Ctx} {e : E} {env : Env} {S : Sto} {σ : L2.St} {f : Bool → Sto → R β} {G : β → Sto → List Addr → Hp → Prop} {Q : Bool → Hp → Prop}
    (he : ERep K hid ρ H env σ) (hs : SOk K hid ρ H S) (h : OutS K hid ρ H ((evalE c e env S).calm.bind fun x S1 => (asBl x S1).bind f) G GX)
    (k : ∀ b S1 ρ1 H1, Ext ρ H ρ1 H1 → SOk K hid ρ1 H1 S1 → OutS K hid ρ1 H1 (f b S1) G GX → Q b H1) : tT K c e σ H Q := by
  obtain ⟨x, S1, q, hk⟩ := h.bind
  refine ⟨hid, ρ, env, S, he, hs, ?_⟩
  rw [q]
  intro ρ1 H1 e1 s1
  obtain ⟨b, hx, hk2⟩ := asBl_outS (hk ρ1 H1 e1)
  exact ⟨b, hx, k b _ ρ1 H1 e1 s1 hk2⟩
theorem tT.ofW {c : Ctx} {e : E} {env : Env} {S : Sto} {σ : L2.St} {f : Bool → Sto → R β} {G : β → Sto → List Addr → Hp → Prop} {Q : Bool → Hp → Prop}
    (he : ERep K hid ρ H env σ) (hs : SOk K hid ρ H S) (h : OutS K hid ρ H (((evalE c e env S).bind asBl).calm.bind f) G GX)
    (k : ∀ b S1 ρ1 H1, Ext ρ H ρ1 H1 → SOk K hid ρ1 H1 S1 → OutS K hid ρ1 H1 (f b S1) G GX → Q b H1) : tT K c e σ H Q := by
  obtain ⟨b, S1, q, hk⟩ := h.bind
  obtain ⟨x, S0, q0, q1⟩ : ∃ x S0, evalE c e env S = .ok x S0 ∧ asBl x S0 = .ok b S1 := by
    cases hr : evalE c e env S with
    | ok x S0 => rw [hr] at q; exact ⟨x, S0, rfl, q⟩
    | exc _ _ _ => rw [hr] at q; cases q
    | bad => rw [hr] at q; cases q
  obtain ⟨hx, hS⟩ := asBl_ok q1
  subst hx hS
  refine ⟨hid, ρ, env, S, he, hs, ?_⟩
  rw [q0]
  exact fun ρ1 H1 e1 s1 => ⟨b, rfl, k b _ ρ1 H1 e1 s1 (hk ρ1 H1 e1)⟩
end
def tS (K : PySem.W.Frag) (c : Ctx) (W : L2.WX) (st : Stm) : TS := fun D σ H => ∃ hid ρ env S, ERep K hid ρ H env σ ∧ SOk K hid ρ H S ∧ OutS K hid ρ H (execS c st env S) (Fin K hid H D) (XW c W)
def tSs (K : PySem.W.Frag) (c : Ctx) (W : L2.WX) (st : List Stm) : TS := fun D σ H => ∃ hid ρ env S, ERep K hid ρ H env σ ∧ SOk K hid ρ H S ∧ OutS K hid ρ H (execSs c st env S) (Fin K hid H D) (XW c W)
variable {c : Ctx} {W : L2.WX} {xt : Stmt} {xs : List Stmt} {st : Stm} {ss : List Stm}
theorem ss_nil : PSs X [] (tSs X.K c W []) := by
  refine PSs.imp pss_nil fun D σ H h => ?_
  obtain ⟨hid, ρ, env, S, hE, hs, h⟩ := h
  simp only [execSs] at h
  exact h.pure hs σ hE
theorem ss_cons (h1 : PS X xt (tS X.K c W st)) (h2 : PSs X xs (tSs X.K c W ss)) : PSs X (xt :: xs) (tSs X.K c W (st :: ss)) := by
  refine PSs.imp (pss_cons h1 h2) fun D σ H h => ?_
  obtain ⟨hid, ρ, env, S, hE, hs, h⟩ := h
  simp only [execSs] at h
  refine ⟨hid, ρ, env, S, hE, hs, h.seq fun f S1 ρ1 H1 e1 s1 hk => ?_⟩
  obtain ⟨f, e⟩ := f
  cases f with
  | nx => exact fun σ1 hE1 => ⟨hid, ρ1, e, S1, hE1, s1, hk.mono fun z S2 ρ2 H2 e2 q => Fin.anti e1 q⟩
  | bk => exact hk.pure s1
  | ct => exact hk.pure s1
  | rt v => exact hk.pure s1

/-! ### for, while -/
def LoopP (K : PySem.W.Frag) (c : Ctx) (W : L2.WX) (hid ρ : List Addr) (H : Hp) (D : Ends) (r : Env → Sto → R (Fl × Env)) : L2.St → Hp → Prop := fun σ H2 => ∃ ρ2 env2 S2, ERep K hid ρ2 H2 env2 σ ∧ SOk K hid ρ2 H2 S2 ∧ Ext ρ H ρ2 H2 ∧
  OutS K hid ρ2 H2 (r env2 S2) (Fin K hid H2 D) (XW c W)
theorem for_read {K : PySem.W.Frag} {hid ρ : List Addr} {H : Hp} {D : Ends} {ys : List Val} {J : It} {tg : T} {body : List Stm} {σ : L2.St} {env : Env} {S : Sto} (hE : ERep K hid ρ H env σ) (hs : SOk K hid ρ H S)
    (w : WalkOk K hid ρ H ys J) (h : OutS K hid ρ H (forLoop tg (execSs c body) ys env S) (Fin K hid H D) (XW c W)) :
    ∃ Z : Nat → Nat → L2.St → Hp → Prop, (∃ m, Z 0 m σ H) ∧ ∀ i m σ H, Z i m σ H →
      (J.stop i H ∧ D.nx σ H) ∨ (J.go i H ∧ ∃ N : L2.St → Hp → Prop, (∀ σ' H', N σ' H' → ∃ m', m' < m ∧ Z (i + 1) m' σ' H') ∧ ∀ x H', J.yld i H x H' → tG K tg x σ H' fun σ2 H2 => tSs K c W body { D with nx := N, ct := N, bk := D.nx } σ2 H2) := by
  refine for_it w.walk (fun i => LoopP K c W hid ρ H D (forLoop tg (execSs c body) (ys.drop i))) ⟨ρ, env, S, hE, hs, Ext.refl _ _, by simpa using h⟩ (fun i σ H2 _ p => ?_) (fun i v σ H2 H3 hi p y => ?_) fun σ H2 p => ?_
  · obtain ⟨ρ2, _, _, _, _, e, _⟩ := p
    exact ⟨ρ2, e⟩
  · obtain ⟨ρ2, env2, S2, hE2, hs2, e2, h2⟩ := p
    obtain ⟨x, hx, e3, hs3, st, rx⟩ := y ρ2 S2 e2 hs2
    have hd : ys.drop i = x :: ys.drop (i + 1) := by
      rw [List.drop_eq_getElem_cons hi]
      rw [List.getElem?_eq_getElem hi] at hx
      cases hx
      rfl
    rw [hd, forLoop] at h2
    cases hb : bindT tg x env2 with
    | none => rw [hb] at h2; exact h2.elim
    | some env' =>
      rw [hb] at h2
      refine ⟨hid, ρ2, env2, S2, x, env', hE2.mono e3, hs3, rx, hb, fun σ' hE' _ => ⟨hid, ρ2, env', S2, hE', hs3, (h2.ext e3).seq fun f S5 ρ5 H5 e5 s5 hk => ?_⟩⟩
      obtain ⟨f, e⟩ := f
      have again : ∀ σ', ERep K hid ρ5 H5 e σ' → OutS K hid ρ5 H5 (forLoop tg (execSs c body) (ys.drop (i + 1)) e S5) (Fin K hid H2 D) (XW c W) → LoopP K c W hid ρ H D (forLoop tg (execSs c body) (ys.drop (i + 1))) σ' H5 := fun σ' hE5 hk =>
        ⟨ρ5, e, S5, hE5, s5, (e2.trans e3).trans e5, hk.mono fun z S6 ρ6 H6 e6 q => Fin.anti (e3.trans e5) q⟩
      cases f with
      | nx => exact fun σ' hE5 => again σ' hE5 hk
      | ct => exact fun σ' hE5 => again σ' hE5 hk
      | bk => exact hk.pure s5
      | rt v => exact fun u r fr => hk.pure s5 u r (fr.anti e3)
  · obtain ⟨ρ2, env2, S2, hE2, hs2, e2, h2⟩ := p
    rw [List.drop_length, forLoop] at h2
    exact h2.pure hs2 σ hE2
theorem s_for {tg iter : Expr} {body : List Stmt} {src : Src} {g : T} {bs : List Stm} (hp : PassesOwn (model X.prog X.w) X.A X.env X.xe) (hc : X.calm = true) (hi : PI X tg iter (tI X.K c src)) (hg : PG X tg (tG X.K g)) (hb : PSs X body (tSs X.K c W bs)) (hf : noSetE iter = true) :
    PS X (.For tg iter body [] pos) (tS X.K c W (.for_ g src bs)) := by
  refine PS.imp (ps_for hp hc hi hg hb (no_fold hf X.env)) fun D σ H h => ?_
  obtain ⟨hid, ρ, env, S, hE, hs, h⟩ := h
  simp only [execS] at h
  obtain ⟨ys, S1, q, hk⟩ := h.bind
  refine ⟨hid, ρ, env, S, hE, hs, ?_⟩
  rw [q]
  intro ρ1 H1 e1 s1 J w
  exact for_read (hE.mono e1) s1 w ((hk ρ1 H1 e1).mono fun z S2 ρ2 H2 e2 q => Fin.anti e1 q)
theorem s_while {xc : Expr} {body : List Stmt} {ec : E} {bs : List Stm} (hp : PassesOwn (model X.prog X.w) X.A X.env X.xe) (ht : PT X xc (tT X.K c ec)) (hb : PSs X body (tSs X.K c W bs)) : PS X (.While xc body [] pos) (tS X.K c W (.while_ ec bs)) := by
  refine PS.imp (ps_while hp ht hb) fun D σ H h => ?_
  obtain ⟨hid, ρ, env, S, hE, hs, h⟩ := h
  simp only [execS] at h
  refine ⟨fun m => LoopP X.K c W hid ρ H D (whileLoop (fun e S => ((evalE c ec e S).bind asBl).calm) (execSs c bs) m), ⟨c.fuel, ρ, env, S, hE, hs, Ext.refl _ _, h⟩, ?_⟩
  rintro m σ2 H2 ⟨ρ2, env2, S2, hE2, hs2, e2, h2⟩
  cases m with
  | zero => exact h2.elim
  | succ m =>
    rw [whileLoop] at h2
    refine tT.ofW hE2 hs2 h2 fun b S3 ρ3 H3 e3 s3 h3 => ?_
    cases b with
    | false => exact h3.pure s3 σ2 (hE2.mono e3)
    | true =>
      refine ⟨LoopP X.K c W hid ρ H D (whileLoop (fun e S => ((evalE c ec e S).bind asBl).calm) (execSs c bs) m), fun σ' H' p => ⟨m, Nat.lt_succ_self m, p⟩, hid, ρ3, env2, S3, hE2.mono e3, s3, OutS.seq (G := Fin X.K hid H2 D) (by simpa only [if_true] using h3) fun f S4 ρ4 H4 e4 s4 hk => ?_⟩
      obtain ⟨f, e⟩ := f
      have again : ∀ σ', ERep X.K hid ρ4 H4 e σ' → OutS X.K hid ρ4 H4 (whileLoop (fun e S => ((evalE c ec e S).bind asBl).calm) (execSs c bs) m e S4) (Fin X.K hid H2 D) (XW c W) → LoopP X.K c W hid ρ H D (whileLoop (fun e S => ((evalE c ec e S).bind asBl).calm) (execSs c bs) m) σ' H4 := fun σ' hE5 hk =>
        ⟨ρ4, e, S4, hE5, s4, (e2.trans e3).trans e4, hk.mono fun z S6 ρ6 H6 e6 q => Fin.anti (e3.trans e4) q⟩
      cases f with
      | nx => exact fun σ' hE5 => again σ' hE5 hk
      | ct => exact fun σ' hE5 => again σ' hE5 hk
      | bk => exact hk.pure s4
      | rt v => exact fun u r fr => hk.pure s4 u r (fr.anti e3)
end
end QE

set_option Elab.async false
set_option linter.all false
set_option maxRecDepth 10000
set_option maxHeartbeats 1000000
/-! List comprehensions. -/
namespace QE
open PySem PySem.Spec PyProof.Rows L2
/-! ### from one heap to another -/
structure RepTo (hid ρ : List Addr) (H : Hp) (hid' ρ' : List Addr) (H' : Hp) : Prop where
  tups : ∀ a xs, H a = some (.tup xs) → H' a = some (.tup xs)
  objs : ∀ f a u, RdF f H a u → a ∉ ρ → a ∉ hid → RdF f H' a u ∧ a ∉ ρ' ∧ a ∉ hid'
  cell : ∀ (n : Nat) (a : Addr), ρ[n]? = some a → ρ'[n]? = some a
  exts : ∀ c φ, H c = some (.ext φ) → c ∉ ρ → H' c = some (.ext φ) ∧ c ∉ ρ'
section
variable {K : PySem.W.Frag} {hid ρ hid' ρ' : List Addr} {H H' : Hp}
mutual
theorem Rep.to (m : RepTo hid ρ H hid' ρ' H') : ∀ (x : Val) (v : V), Rep K hid ρ H x v → Rep K hid' ρ' H' x v
  | .non, v, h => by simp only [Rep] at h ⊢; exact h
  | .bl b, v, h => by simp only [Rep] at h ⊢; exact h
  | .int i, v, h => by simp only [Rep] at h ⊢; exact h
  | .str s, v, h => by simp only [Rep] at h ⊢; exact h
  | .tup xs, v, h => by
    simp only [Rep] at h ⊢
    obtain ⟨a, vs, h1, h2, h3⟩ := h
    exact ⟨a, vs, h1, m.tups _ _ h2, RepL.to m xs vs h3⟩
  | .lst f xs, v, h => by
    simp only [Rep] at h ⊢
    obtain ⟨a, vs, h1, h2, h3, h4, h5⟩ := h
    obtain ⟨k1, k2, k3⟩ := m.objs _ _ _ h2 h3 h4
    exact ⟨a, vs, h1, k1, k2, k3, RepL.to m xs vs h5⟩
  | .dic f true kvs, v, h => by
    simp only [Rep] at h ⊢
    obtain ⟨a, vs, h1, h2, h3, h4, h5⟩ := h
    obtain ⟨k1, k2, k3⟩ := m.objs true _ _ h2 h3 h4
    exact ⟨a, vs, h1, k1, k2, k3, RepT.to m kvs vs h5⟩
  | .dic f false kvs, v, h => by
    simp only [Rep] at h ⊢
    obtain ⟨a, vs, h1, h2, h3, h4, h5⟩ := h
    obtain ⟨k1, k2, k3⟩ := m.objs true _ _ h2 h3 h4
    exact ⟨a, vs, h1, k1, k2, k3, RepK.to m kvs vs h5⟩
  | .ref n, v, h => by
    simp only [Rep] at h ⊢
    obtain ⟨a, h1, h2⟩ := h
    exact ⟨a, m.cell _ _ h1, h2⟩
  | .kls ns, v, h => by simp only [Rep] at h ⊢; exact h
  | .fn _ _, v, h => by simp only [Rep] at h ⊢; exact h
  | .exn _ _, v, h => by simp only [Rep] at h ⊢; exact h
theorem RepL.to (m : RepTo hid ρ H hid' ρ' H') : ∀ (xs : List Val) (vs : List V), RepL K hid ρ H xs vs → RepL K hid' ρ' H' xs vs
  | [], vs, h => by simp only [RepL] at h ⊢; exact h
  | x :: xs, vs, h => by
    simp only [RepL] at h ⊢
    obtain ⟨v, r, h1, h2, h3⟩ := h
    exact ⟨v, r, h1, ⟨h2.1, Rep.to m x v h2.2⟩, RepL.to m xs r h3⟩
theorem RepK.to (m : RepTo hid ρ H hid' ρ' H') : ∀ (xs : List (Val × Val)) (ws : List (L2.Key × V)), RepK K hid ρ H xs ws → RepK K hid' ρ' H' xs ws
  | [], vs, h => by simp only [RepK] at h ⊢; exact h
  | (k, x) :: xs, vs, h => by
    simp only [RepK] at h ⊢
    obtain ⟨v, r, h1, h4, h2, h3⟩ := h
    exact ⟨v, r, h1, h4, ⟨h2.1, Rep.to m x v h2.2⟩, RepK.to m xs r h3⟩
theorem RepT.to (m : RepTo hid ρ H hid' ρ' H') : ∀ (xs : List (Val × Val)) (ws : List (List L2.Key × V)), RepT K hid ρ H xs ws → RepT K hid' ρ' H' xs ws
  | [], vs, h => by simp only [RepT] at h ⊢; exact h
  | (k, x) :: xs, vs, h => by
    simp only [RepT] at h ⊢
    obtain ⟨v, r, h1, h4, h2, h3⟩ := h
    exact ⟨v, r, h1, h4, ⟨h2.1, Rep.to m x v h2.2⟩, RepT.to m xs r h3⟩
end
theorem ObRep.to (m : RepTo hid ρ H hid' ρ' H') {a : Addr} (e : H' a = H a) : ∀ {o : Ob}, ObRep K hid ρ H a o → ObRep K hid' ρ' H' a o
  | .lst xs, ⟨vs, h1, h2⟩ => ⟨vs, e.trans h1, RepL.to m xs vs h2⟩
  | .dic true xs, ⟨vs, h1, h2⟩ => ⟨vs, e.trans h1, RepT.to m xs vs h2⟩
  | .dic false xs, ⟨vs, h1, h2⟩ => ⟨vs, e.trans h1, RepK.to m xs vs h2⟩
  | .tbl p q, ⟨ea, ps, h1, h2, h3⟩ => ⟨ea, ps, (ea ▸ e).trans h1, h2, fun pos cv hc => let ⟨c, e1, e2, e3⟩ := h3 pos cv hc; ⟨c, e1, (m.exts c _ e3 e2).2, (m.exts c _ e3 e2).1⟩⟩
/-- the hidden object is written -/
theorem to_over {D : Addr} {u o : HO} (hD : H D = some u) (hu : ∀ xs, u ≠ .tup xs) (hx : ∀ φ, u ≠ .ext φ := by intro _ z; cases z) : RepTo (D :: hid) ρ H (D :: hid) ρ (upd H D o) :=
  ⟨fun a xs h => by rw [upd_ne (fun z => by subst z; rw [hD] at h; cases h; exact hu xs rfl)]; exact h,
   fun f a w h h1 h2 => by
    have ne : a ≠ D := fun z => h2 (by simp [z])
    refine ⟨?_, h1, h2⟩
    cases f with
    | true => show upd H D o a = _; rw [upd_ne ne]; exact h
    | false =>
      rcases h with h | ⟨w', h⟩
      · exact .inl (by rw [upd_ne ne]; exact h)
      · exact .inr ⟨w', by rw [upd_ne ne]; exact h⟩,
   fun n a h => h, fun c φ h h1 => ⟨by rw [upd_ne (fun z => by subst z; rw [hD] at h; cases h; exact hx φ rfl)]; exact h, h1⟩⟩
theorem SOk.over {D : Addr} {u o : HO} {S : Sto} (s : SOk K (D :: hid) ρ H S) (hD : H D = some u) (hu : ∀ xs, u ≠ .tup xs) (hx : ∀ φ, u ≠ .ext φ := by intro _ z; cases z) (no : NT o := by intro _ z; cases z) : SOk K (D :: hid) ρ (upd H D o) S := by
  refine ⟨s.len, s.nd, s.apart, fun a ha => ?_, fun n ob q => ?_⟩
  · by_cases e : a = D
    · subst e; exact ⟨o, upd_same, no⟩
    · rw [upd_ne e]; exact s.hidd a ha
  · obtain ⟨a, h1, h2⟩ := s.ob n ob q
    exact ⟨a, h1, h2.to (to_over hD hu hx) (upd_ne fun z => s.apart a (List.mem_of_getElem? h1) (by simp [z]))⟩
/-- the hidden object becomes a cell -/
theorem to_take {D : Addr} (hx : ∀ φ, H D ≠ some (.ext φ)) : RepTo (D :: hid) ρ H hid (ρ ++ [D]) H :=
  ⟨fun a xs h => h, fun f a w h h1 h2 => ⟨h, fun z => by
    rcases List.mem_append.mp z with z | z
    · exact h1 z
    · exact h2 (by simp [List.mem_singleton.mp z]), fun z => h2 (List.mem_cons_of_mem _ z)⟩,
   fun n a h => by rw [List.getElem?_append_left (List.getElem?_eq_some_iff.mp h).1]; exact h, fun c φ h h1 => ⟨h, fun z => by
    rcases List.mem_append.mp z with z | z
    · exact h1 z
    · rw [List.mem_singleton.mp z] at h; exact hx φ h⟩⟩
theorem ObRep.noext {a : Addr} : ∀ {ob : Ob}, ObRep K hid ρ H a ob → ∀ φ, H a ≠ some (.ext φ)
  | .lst xs, ⟨vs, h1, _⟩, φ, z => by rw [h1] at z; cases z
  | .dic true xs, ⟨vs, h1, _⟩, φ, z => by rw [h1] at z; cases z
  | .dic false xs, ⟨vs, h1, _⟩, φ, z => by rw [h1] at z; cases z
  | .tbl p q, ⟨ea, ps, h1, _⟩, φ, z => by rw [ea, h1] at z; cases z
theorem SOk.take {D : Addr} {S : Sto} {ob : Ob} (s : SOk K (D :: hid) ρ H S) (hd : D ∉ hid) (r : ObRep K (D :: hid) ρ H D ob) : SOk K hid (ρ ++ [D]) H (S ++ [ob]) := by
  have nd : D ∉ ρ := fun z => s.apart D z (by simp)
  refine ⟨by simp [s.len], ?_, ?_, fun a ha => s.hidd a (List.mem_cons_of_mem _ ha), fun n ob' q => ?_⟩
  · rw [List.nodup_append]
    exact ⟨s.nd, by simp, fun x hx y hy => by
      rw [List.mem_singleton] at hy
      subst hy
      exact fun z => nd (z ▸ hx)⟩
  · intro b hb
    rcases List.mem_append.mp hb with hb | hb
    · exact fun z => s.apart b hb (List.mem_cons_of_mem _ z)
    · rw [List.mem_singleton.mp hb]; exact hd
  · by_cases hn : n < S.length
    · rw [List.getElem?_append_left hn] at q
      obtain ⟨b, hb, rb⟩ := s.ob n ob' q
      exact ⟨b, by rw [List.getElem?_append_left (by rw [s.len]; exact hn)]; exact hb, rb.to (to_take r.noext) rfl⟩
    · have hn2 : n = S.length := by
        have := (List.getElem?_eq_some_iff.mp q).1
        simp at this
        omega
      subst hn2
      rw [List.getElem?_append_right (Nat.le_refl _)] at q
      simp at q
      subst q
      exact ⟨D, by rw [← s.len, List.getElem?_append_right (Nat.le_refl _)]; simp, r.to (to_take r.noext) rfl⟩
theorem Ext.over {D : Addr} {o : HO} (e : Ext ρ H ρ' H') (hd : H D = none) : Ext ρ H ρ' (upd H' D o) := by
  have ne : ∀ b u, H b = some u → b ≠ D := fun b u h z => by rw [z, hd] at h; cases h
  exact ⟨e.more, fun b u h hb n => by rw [upd_ne (ne b u h)]; exact e.keep0 b u h hb n, fun b u h n => by rw [upd_ne (ne b u h)]; exact e.there0 b u h n,
    fun b xs h => by rw [upd_ne (ne b _ h)]; exact e.tups b xs h, fun b u w h => by rw [upd_ne (ne b _ h)]; exact e.frzs b u w h⟩
theorem ERep.hide0 {D : Addr} {env : Env} {σ : L2.St} (h : ERep K hid ρ H env σ) (hd : H D = none) : ERep K (D :: hid) ρ H env σ := by
  refine ⟨h.len, fun i x q => ?_⟩
  obtain ⟨v, a, st, b⟩ := h.at_ i x q
  exact ⟨v, a, st, Rep.hide hd x v b⟩
theorem WalkOk.hide0 {D : Addr} {xs : List Val} {J : It} (h : WalkOk K hid ρ H xs J) (hd : H D = none) : WalkOk K (D :: hid) ρ H xs J := by
  have rl : ∀ {xs : List Val} {vs : List V}, RepL K hid ρ H xs vs → RepL K (D :: hid) ρ H xs vs := fun {xs vs} r => RepL.hide hd xs vs r
  cases h with
  | list h ha r => exact .list h ha (rl r)
  | tup h r => exact .tup h (rl r)
  | range => exact .range
  | str => exact .str
  | enumL h ha r => exact .enumL h ha (rl r)
  | enumT h r => exact .enumT h (rl r)
  | zipL h ha r h' hb r' => exact .zipL h ha (rl r) h' hb (rl r')
  | zipT h r h' r' => exact .zipT h (rl r) h' (rl r')
theorem wipe_wipe (σ : L2.St) (vs : List Nat) : L2.wipe (L2.wipe σ vs) vs = L2.wipe σ vs := by
  apply List.ext_getElem?
  intro j
  rw [wipe_get, wipe_get]
  by_cases h : j ∈ vs
  · simp only [h, if_true]
    cases σ[j]? <;> rfl
  · simp only [h, if_false]
end

/-! ### tests of a clause -/
section
variable {X : Cx} {c : Ctx} {pos : Pos} {xa : Expr} {ea : E}
theorem ifs_nil : PTs X [] (tBs (evalAnd c) X.K []) := by
  refine PTs.imp pts_nil fun σ H Q h => ?_
  obtain ⟨hid, ρ, env, S, hE, hs, h⟩ := h
  simp only [evalAnd] at h
  exact h.pure hs
theorem ifs_one (h : PT X xa (tT X.K c ea)) : PTs X [xa] (tBs (evalAnd c) X.K [ea]) := by
  refine PTs.imp (pts_one h) fun σ H Q h => ?_
  obtain ⟨hid, ρ, env, S, hE, hs, h⟩ := h
  simp only [evalAnd] at h
  refine tT.of hE hs h fun b S1 ρ1 H1 e1 s1 h1 => ?_
  cases b with
  | true => exact h1.pure s1
  | false => exact h1.pure s1

theorem calm_ok {α : Type} {r : R α} {a : α} {S : Sto} (h : r.calm = .ok a S) : r = .ok a S := by
  cases r <;> simp only [R.calm] at h <;> cases h
  rfl
theorem bind_ok {α β : Type} {r : R α} {f : α → Sto → R β} {b : β} {S : Sto} (h : r.bind f = .ok b S) : ∃ a S1, r = .ok a S1 ∧ f a S1 = .ok b S := by
  cases r with
  | ok a S1 => exact ⟨a, S1, rfl, h⟩
  | exc _ _ _ => cases h
  | bad => cases h
theorem lc_read {own : List Nat} {tg : T} {src : Src} {ifs : List E} {elt : E} (hown : ∀ i ∈ tgN tg, i ∈ own) {σ : L2.St} {H : Hp} {Q : VK} (h : tE X.K c (.comp own tg src ifs elt) σ H Q) :
    tLc (tI X.K c src) (tG X.K tg) (tBs (evalAnd c) X.K ifs) (tE X.K c elt) own σ H Q := by
  obtain ⟨hid, ρ, env, S, hE, hs, h⟩ := h
  simp only [evalE] at h
  obtain ⟨xs, S1, q, hk⟩ := h.bind
  refine ⟨hid, ρ, env, S, hE, hs, ?_⟩
  rw [q]
  intro ρ1 H1 e1 s1 J w D hD
  obtain ⟨ys, S', q2, hk2⟩ := (hk ρ1 H1 e1).bind
  have q2 := calm_ok q2
  have hlim : ys.length ≤ lim := by
    have := hk2 ρ1 H1 (Ext.refl _ _)
    split at this
    · assumption
    · exact this.elim
  refine lc_it (w.hide0 hD).walk (fun i H2 => ∃ ρ2 S2 acc accv ys2, H2 D = some (.lst accv) ∧ RepL X.K (D :: hid) ρ2 H2 acc accv ∧ SOk X.K (D :: hid) ρ2 H2 S2 ∧ Ext ρ1 H1 ρ2 H2 ∧
    compLoop tg (evalAnd c ifs) (evalE c elt) (QE.wipe env own) (xs.drop i) S2 = .ok ys2 S' ∧ acc ++ ys2 = ys) ⟨ρ1, S1, [], [], ys, upd_same, .nil, s1.hide hD, Ext.new hD, by simpa using q2, rfl⟩
    (fun i H2 _ p => ?_) (fun i v H2 H3 hi p y => ?_) fun H2 p => ?_
  · obtain ⟨ρ2, _, _, _, _, _, _, _, e, _⟩ := p
    exact ⟨ρ2, e⟩
  · obtain ⟨ρ2, S2, acc, accv, ys2, hD2, racc, hs2, e2, hcl, hys⟩ := p
    obtain ⟨x, hx, e3, hs3, st, rx⟩ := y ρ2 S2 e2 hs2
    have hd : xs.drop i = x :: xs.drop (i + 1) := by
      rw [List.drop_eq_getElem_cons hi]
      rw [List.getElem?_eq_getElem hi] at hx
      cases hx
      rfl
    rw [hd, compLoop] at hcl
    cases hb : bindT tg x (QE.wipe env own) with
    | none => rw [hb] at hcl; cases hcl
    | some env' =>
      rw [hb] at hcl
      obtain ⟨b, S3, qt, hcl⟩ := bind_ok hcl
      have dn : D ∉ ρ2 := fun z => hs2.apart D z (by simp)
      have hE3 : ERep X.K (D :: hid) ρ2 H3 (QE.wipe env own) (L2.wipe σ own) := ((((hE.mono e1).hide0 hD).mono e2).mono e3).wipe own
      refine ⟨D :: hid, ρ2, QE.wipe env own, S2, x, env', hE3, hs3, rx, hb, fun σ' hE' hw => ⟨by rw [hw own hown, wipe_wipe], D :: hid, ρ2, env', S2, hE', hs3, ?_⟩⟩
      rw [qt]
      intro ρ5 H5 e5 s5
      have dn5 : D ∉ ρ5 := fun z => s5.apart D z (by simp)
      have hD5 : H5 D = some (.lst accv) := e5.keep _ _ (e3.keep _ _ hD2 dn) dn
      cases b with
      | false =>
        simp only [Bool.false_eq_true, if_false] at hcl ⊢
        exact ⟨ρ5, S3, acc, accv, ys2, hD5, RepL.mono (e3.trans e5) _ _ racc, s5, (e2.trans e3).trans e5, hcl, hys⟩
      | true =>
        simp only [if_true] at hcl ⊢
        obtain ⟨z, S4, qe, hcl⟩ := bind_ok hcl
        obtain ⟨ys3, S6, ql, hcl⟩ := bind_ok hcl
        cases hcl
        refine ⟨D :: hid, ρ5, env', S3, hE'.mono e5, s5, ?_⟩
        rw [qe]
        intro ρ6 H6 e6 s6 zv rz frz
        have hD6 : H6 D = some (.lst accv) := e6.keep _ _ hD5 dn5
        have hl : accv.length < sizeLine := by
          rw [racc.length, ← lim_eq]
          have := congrArg List.length hys
          rw [List.length_append, List.length_cons] at this
          omega
        have rall : RepL X.K (D :: hid) ρ6 H6 (acc ++ [z.settle]) (accv ++ [zv]) := (RepL.mono ((e3.trans e5).trans e6) _ _ racc).app (.cons ⟨st_settle z, rz.settle⟩ .nil)
        refine ⟨accv, hD6, hl, ρ6, S4, acc ++ [z.settle], accv ++ [zv], ys3, upd_same, RepL.to (to_over hD6 (fun xs => by simp)) _ _ rall, s6.over hD6 (fun xs => by simp), (((e2.trans e3).trans e5).trans e6).over hD, ql, ?_⟩
        rw [List.append_assoc]
        exact hys
  · obtain ⟨ρ2, S2, acc, accv, ys2, hD2, racc, hs2, e2, hcl, hys⟩ := p
    rw [List.drop_length, compLoop] at hcl
    cases hcl
    rw [List.append_nil] at hys
    subst hys
    have h9 := hk2 ρ2 H2 e2
    rw [if_pos hlim] at h9
    have dn : D ∉ ρ2 := fun z => hs2.apart D z (by simp)
    have dh : D ∉ hid := s1.new2 hD
    refine h9.pure hs2.seen (.ref D) ?_ ⟨D, rfl, e1.free (.of hD), hs2.take dh ⟨accv, hD2, racc⟩⟩
    simp only [Rep]
    exact ⟨D, accv, rfl, hD2, dn, dh, RepL.seen _ _ racc⟩
/-- as a value -/
theorem s_comp {xe tg iter : Expr} {xifs : List Expr} {scope : Scope} {own : List (Str × Nat)} {g : T} {src : Src} {ifs : List E} {elt : E} (hc : X.calm = true) (hN : X.N.Nodup) (hi : PI X tg iter (tI X.K c src)) (ok : BlkOk X.N X.env.scope scope own)
    (hg : ∀ (s : Shared) (H : Hp) (C : Addr) (cl : List (Str × Addr)) (fp : List Addr), PG (X.blk s H scope (compEnvC scope cl C X.env) fp) tg (tG X.K g))
    (ht : ∀ (s : Shared) (H : Hp) (C : Addr) (cl : List (Str × Addr)) (fp : List Addr), PTs (X.blk s H scope (compEnvC scope cl C X.env) fp) xifs (tBs (evalAnd c) X.K ifs))
    (he : ∀ (s : Shared) (H : Hp) (C : Addr) (cl : List (Str × Addr)) (fp : List Addr), PE (X.blk s H scope (compEnvC scope cl C X.env) fp) xe (tE X.K c elt)) (hf : noSetE iter = true) (hown : ∀ i ∈ tgN g, i ∈ own.map (·.2)) :
    PE X (.ListComp xe [⟨tg, iter, xifs, 0⟩] scope pos) (tE X.K c (.comp (own.map (·.2)) g src ifs elt)) :=
  PE.imp (pe_lc hc hN hi ok hg ht he (no_fold hf X.env)) fun σ H Q h => lc_read hown h
/-- name = value, by the evaluator -/
theorem set_read {W : L2.WX} {i : Nat} {e : E} {D : Ends} {σ : L2.St} {H : Hp} (h : tS X.K c W (.asg (.name i) e) D σ H) : tE X.K c e σ H fun x H1 => gName i x σ H1 D.nx := by
  obtain ⟨hid, ρ, env, S, hE, hs, h⟩ := h
  simp only [execS] at h
  refine tE.ofS hE hs h fun v S1 ρ1 H1 u e1 s1 r1 f1 h1 => ?_
  simp only [bindT, R.of, R.bind] at h1
  exact h1.pure s1 _ ((hE.mono e1).set i (st_settle v) r1.settle)
/-- name = [..] on one line, the name a local -/
theorem s_setComp {W : L2.WX} {i : Nat} {y : Str} {py spos : Pos} {xe tg iter : Expr} {xifs : List Expr} {scope : Scope} {own : List (Str × Nat)} {g : T} {src : Src} {ifs : List E} {elt e' : E} (rd : ∀ σ H Q, tE X.K c e' σ H Q → tE X.K c (.comp (own.map (·.2)) g src ifs elt) σ H Q)
    (hc : X.calm = true) (hN : X.N.Nodup) (hy : X.N[i]? = some y) (hyl : X.env.scope.names.lookup y = some .local)
    (hsw : swapsWith (.ListComp xe [⟨tg, iter, xifs, 0⟩] scope pos) (some (.Name y py)) spos.line X.env = pure true) (hi : PI X tg iter (tI X.K c src)) (ok : BlkOk X.N X.env.scope scope own)
    (hg : ∀ (s : Shared) (H : Hp) (C : Addr) (cl : List (Str × Addr)) (fp : List Addr), PG (X.blk s H scope (compEnvC scope cl C X.env) fp) tg (tG X.K g))
    (ht : ∀ (s : Shared) (H : Hp) (C : Addr) (cl : List (Str × Addr)) (fp : List Addr), PTs (X.blk s H scope (compEnvC scope cl C X.env) fp) xifs (tBs (evalAnd c) X.K ifs))
    (he : ∀ (s : Shared) (H : Hp) (C : Addr) (cl : List (Str × Addr)) (fp : List Addr), PE (X.blk s H scope (compEnvC scope cl C X.env) fp) xe (tE X.K c elt)) (hf : noSetE iter = true) (hown : ∀ i ∈ tgN g, i ∈ own.map (·.2)) :
    PS X (.Assign [.Name y py] (.ListComp xe [⟨tg, iter, xifs, 0⟩] scope pos) spos) (tS X.K c W (.asg (.name i) e')) :=
  PS.imp (ps_setLc hc hN hy hyl hsw hi ok hg ht he (no_fold hf X.env)) fun D σ H h => lc_read hown (rd _ _ _ (set_read h))
end
end QE

set_option Elab.async false
set_option linter.all false
set_option maxRecDepth 10000
set_option maxHeartbeats 1000000
/-! Statements. -/
namespace QE
open PySem PySem.Spec PyProof.Rows L2
theorem cell_read {K : PySem.W.Frag} {c : Ctx} {ev : E} {σ : L2.St} {H : Hp} {Q : VK} (h : tE K c (.cell ev) σ H Q) : tE K c ev σ H Q := by
  obtain ⟨hid, ρ, env, S, hE, hs, h⟩ := h
  simp only [evalE] at h
  obtain ⟨x, S1, q, hk⟩ := h.bind
  refine ⟨hid, ρ, env, S, hE, hs, ?_⟩
  rw [q]
  intro ρ1 H1 e1 s1 v r fr
  have hk := hk ρ H (Ext.refl _ _)
  unfold newCell at hk
  split at hk
  · rename_i xs
    obtain ⟨a, ev, h0, s2⟩ := fr
    subst ev
    refine hk (ρ1 ++ [a]) H1 (e1.give h0) s2 (.ref a) ?_ trivial
    simp only [Rep]
    refine ⟨a, ?_, rfl⟩
    rw [← s1.len, List.getElem?_append_right (Nat.le_refl _)]
    simp
  · rename_i t kvs
    obtain ⟨a, ev, h0, s2⟩ := fr
    subst ev
    refine hk (ρ1 ++ [a]) H1 (e1.give h0) s2 (.ref a) ?_ trivial
    simp only [Rep]
    refine ⟨a, ?_, rfl⟩
    rw [← s1.len, List.getElem?_append_right (Nat.le_refl _)]
    simp
  · exact hk.elim
section
variable {X : Cx} {c : Ctx} {W : L2.WX} {pos : Pos} {xa xb : Expr} {ea eb : E}
/-! ### shapes of assignments -/
def noComp : Expr → Bool
  | .ListComp _ _ _ _ => false
  | .SetComp _ _ _ _ => false
  | .DictComp _ _ _ _ _ => false
  | _ => true
theorem no_swaps {e : Expr} (h : noComp e = true) (t : Option Expr) (l : Nat) (env : PySem.Env) : swapsWith e t l env = pure false := by
  cases e <;> first | rfl | cases h
def noName : Expr → Bool
  | .Name _ _ => false
  | _ => true
theorem no_swapT {t : Expr} (h : noName t = true) (e : Expr) (l : Nat) (env : PySem.Env) : swapsWith e (some t) l env = pure false := by
  cases t <;> first | (cases h; done) | (cases e <;> rfl)
def noTup : Expr → Bool
  | .Tuple _ _ _ => false
  | _ => true
theorem no_stores {e : Expr} (h : noTup e = true) (tg : Expr) (env : PySem.Env) : swappedStores [tg] e env = pure none := by
  cases e <;> first | (cases h; done) | (cases tg <;> rfl)
def noSeqT : Expr → Bool
  | .Tuple _ _ _ => false
  | .List _ _ => false
  | _ => true
theorem no_storesT {tg : Expr} (h : noSeqT tg = true) (e : Expr) (env : PySem.Env) : swappedStores [tg] e env = pure none := by
  cases tg <;> first | (cases h; done) | (cases e <;> rfl)

/-- a target's name that is no plain local -/
def celT (sc : Scope) : Expr → Bool
  | .Name y _ => !decide (sc.names.lookup y = some .local)
  | _ => false
theorem cel_swaps {t : Expr} {env : PySem.Env} (h : celT env.scope t = true) (e : Expr) (l : Nat) : swapsWith e (some t) l env = pure false := by
  cases t <;> simp only [celT] at h <;> try (cases h; done)
  rename_i y p
  simp only [Bool.not_eq_true', decide_eq_false_iff_not] at h
  have hk : (env.kindOf y == some .local) = false := by
    show (env.scope.names.lookup y == some NameKind.local) = false
    simpa using h
  cases e <;> first | rfl | (unfold swapsWith; simp [hk])
def celTs (sc : Scope) : Expr → Bool
  | .Tuple ts _ _ => ts.any (celT sc)
  | _ => false
theorem cel_stores {tg : Expr} {env : PySem.Env} (h : celTs env.scope tg = true) (e : Expr) : swappedStores [tg] e env = pure none := by
  cases tg <;> simp only [celTs] at h <;> try (cases h; done)
  rename_i ts kt pt
  cases e <;> try rfl
  rename_i vs k2 p2
  have key : ∀ line : Nat, ((ts.filterMap fun
    | .Name id pos => if env.kindOf id == some .local && pos.line == line then some id else none
    | _ => none).length != ts.length) = true := by
    intro line
    obtain ⟨t, ht, hc⟩ := List.any_eq_true.mp h
    have := List.length_filterMap_lt_length_iff_exists (f := fun x : Expr => (match x with
      | .Name id pos => if env.kindOf id == some .local && pos.line == line then some id else none
      | _ => none : Option Str)) (xs := ts)
    have hh := this.mpr ⟨t, ht, by
      cases t <;> simp only [celT] at hc <;> try (cases hc; done)
      rename_i y p
      simp only [Bool.not_eq_true', decide_eq_false_iff_not] at hc
      have hk : (env.kindOf y == some .local) = false := by
        show (env.scope.names.lookup y == some NameKind.local) = false
        simpa using hc
      simp [hk]⟩
    simp only [bne_iff_ne, ne_eq]
    omega
  unfold swappedStores
  show (if (!(ts.length == 2 || ts.length == 3) || vs.length != ts.length || env.blockKind != ScopeKind.function) = true then pure none else _) = _
  split
  · rfl
  · split
    · rfl
    · rw [if_pos]
      rw [Bool.or_eq_true]
      left
      exact key _

/-! ### assignments -/
theorem s_asg {tg : Expr} {g : T} (ha : PE X xa (tE X.K c ea)) (hg : PG X tg (tG X.K g)) (hp : plainG tg = true) (h1 : noComp xa = true ∨ noName tg = true ∨ celT X.env.scope tg = true) (h2 : noTup xa = true ∨ noSeqT tg = true ∨ celTs X.env.scope tg = true) : PS X (.Assign [tg] xa pos) (tS X.K c W (.asg g ea)) := by
  have sw : swapsWithSole [tg] xa pos.line X.env = pure false := by
    show swapsWith xa (some tg) pos.line X.env = _
    rcases h1 with h | h | h
    · exact no_swaps h _ _ _
    · exact no_swapT h _ _ _
    · exact cel_swaps h _ _
  have ss : swappedStores [tg] xa X.env = pure none := by
    rcases h2 with h | h | h
    · exact no_stores h _ _
    · exact no_storesT h _ _
    · exact cel_stores h _
  refine PS.imp (ps_asg ha hg sw ss (by rw [each_cons hp]; rfl)) fun D σ H h => ?_
  obtain ⟨hid, ρ, env, S, hE, hs, h⟩ := h
  simp only [execS] at h
  refine tE.ofS hE hs h fun v S1 ρ1 H1 u e1 s1 r1 f1 h1 => ?_
  obtain ⟨env', hb, h2⟩ := h1.some
  exact ⟨hid, ρ1, env, S1, v, env', hE.mono e1, s1, r1, hb, fun σ' hE' _ => h2.pure s1 σ' hE'⟩
theorem sole_no {t e : Expr} {l : Nat} {env : PySem.Env} (h : noComp e = true ∨ noName t = true) : swapsWithSole [t] e l env = pure false := by
  show swapsWith e (some t) l env = _
  rcases h with h | h
  · exact no_swaps h _ _ _
  · exact no_swapT h _ _ _
theorem stores2 {x y : Str} {px py pt pt2 : Pos} {kt k2 : Nat} {a b : Expr} {env : PySem.Env} (hk : env.blockKind = .function) (hx : env.kindOf x = some .local) (hy : env.kindOf y = some .local) (hl : (py.line == px.line) = true) (hne : (x == y) = false)
    (hp : [a, b].all plainE = true) (hf : [a, b].all (foldedForSure 8) = false) (ho : [a, b].all (constantsAlone 8) = false) : swappedStores [.Tuple [.Name x px, .Name y py] kt pt] (.Tuple [a, b] k2 pt2) env = pure (some [x, y]) := by
  have hp1 : plainE a = true := (by simp only [List.all_cons, Bool.and_eq_true] at hp; exact hp.1)
  have hp2 : plainE b = true := (by simp only [List.all_cons, Bool.and_eq_true] at hp; exact hp.2.1)
  have hl1 : py.line = px.line := by simpa using hl
  have hn1 : x ≠ y := by simpa using hne
  have hn2 : ¬ y = x := fun z => hn1 z.symm
  unfold swappedStores
  simp [hk, hx, hy, hl1, hn1, hn2, hf, ho, Expr.pos, List.filterMap_cons, List.eraseDups_cons]
  intro h
  rcases h with h | h
  · cases a <;> first | (cases h; done) | (cases hp1; done)
  · cases b <;> first | (cases h; done) | (cases hp2; done)
theorem stores3 {x y z : Str} {px py pz pt pt2 : Pos} {kt k2 : Nat} {a b d : Expr} {env : PySem.Env} (hk : env.blockKind = .function) (hx : env.kindOf x = some .local) (hy : env.kindOf y = some .local) (hz : env.kindOf z = some .local)
    (hl : (py.line == px.line) = true) (hl2 : (pz.line == px.line) = true) (hne : (x == y) = false) (hxz : (x == z) = false) (hyz : (y == z) = false)
    (hp : [a, b, d].all plainE = true) (hf : [a, b, d].all (foldedForSure 8) = false) (ho : [a, b, d].all (constantsAlone 8) = false) : swappedStores [.Tuple [.Name x px, .Name y py, .Name z pz] kt pt] (.Tuple [a, b, d] k2 pt2) env = pure (some [x, y, z]) := by
  have hp1 : plainE a = true := (by simp only [List.all_cons, Bool.and_eq_true] at hp; exact hp.1)
  have hp2 : plainE b = true := (by simp only [List.all_cons, Bool.and_eq_true] at hp; exact hp.2.1)
  have hp3 : plainE d = true := (by simp only [List.all_cons, Bool.and_eq_true] at hp; exact hp.2.2.1)
  have hl1 : py.line = px.line := by simpa using hl
  have hl3 : pz.line = px.line := by simpa using hl2
  have hn1 : x ≠ y := by simpa using hne
  have hn2 : ¬ y = x := fun z => hn1 z.symm
  have hn3 : x ≠ z := by simpa using hxz
  have hn4 : ¬ z = x := fun z => hn3 z.symm
  have hn5 : y ≠ z := by simpa using hyz
  have hn6 : ¬ z = y := fun z => hn5 z.symm
  unfold swappedStores
  simp [hk, hx, hy, hz, hl1, hl3, hn1, hn2, hn3, hn4, hn5, hn6, hf, ho, Expr.pos, List.filterMap_cons, List.eraseDups_cons]
  intro h
  rcases h with h | h | h
  · cases a <;> first | (cases h; done) | (cases hp1; done)
  · cases b <;> first | (cases h; done) | (cases hp2; done)
  · cases d <;> first | (cases h; done) | (cases hp3; done)
theorem s_par2 {i j : Nat} {x y : Str} {a b : Expr} {es : List E} {px py pt pt2 : Pos} {kt k2 : Nat} (hc : X.calm = true) (hN : X.N.Nodup) (hi : X.N[i]? = some x) (hj : X.N[j]? = some y) (hij : i ≠ j) (hk : X.env.blockKind = .function)
    (hx : X.env.kindOf x = some .local) (hy : X.env.kindOf y = some .local) (ha : PA X [a, b] (tEs X.K c es)) (hl : (py.line == px.line) = true) (hne : (x == y) = false)
    (hp : [a, b].all plainE = true) (hf : [a, b].all (foldedForSure 8) = false) (ho : [a, b].all (constantsAlone 8) = false) :
    PS X (.Assign [.Tuple [.Name x px, .Name y py] kt pt] (.Tuple [a, b] k2 pt2) pos) (tS X.K c W (.par [i, j] es)) := by
  refine PS.imp (ps_par hc hN hi hj hij hx hy ha (stores2 hk hx hy hl hne hp hf ho) (sole_no (.inl rfl))) fun D σ H h => ?_
  obtain ⟨hid, ρ, env, S, hE, hs, h⟩ := h
  simp only [execS] at h
  refine tEs.ofS hE hs h fun ys S1 ρ1 H1 vs e1 s1 r1 h1 => ?_
  obtain ⟨env', hb, h2⟩ := h1.some
  match ys, hb, r1 with
  | [u, w], hb, r1 =>
    simp only [setAll, Option.some.injEq] at hb
    subst hb
    simp only [RepL] at r1
    obtain ⟨v1, vr, ev, ru, v2, vr2, ev2, rw', ev3⟩ := r1
    subst ev3 ev2 ev
    exact ⟨v1, v2, rfl, h2.pure s1 _ (((hE.mono e1).set i ru.1 ru.2).set j rw'.1 rw'.2)⟩
  | [], hb, _ => simp [setAll] at hb
  | [_], hb, _ => simp [setAll] at hb
  | _ :: _ :: _ :: _, hb, _ => simp [setAll] at hb
theorem s_par3 {i j l : Nat} {x y z : Str} {a b d : Expr} {es : List E} {px py pz pt pt2 : Pos} {kt k2 : Nat} (hc : X.calm = true) (hN : X.N.Nodup) (hi : X.N[i]? = some x) (hj : X.N[j]? = some y) (hl' : X.N[l]? = some z) (hij : i ≠ j) (hil : i ≠ l) (hjl : j ≠ l) (hk : X.env.blockKind = .function)
    (hx : X.env.kindOf x = some .local) (hy : X.env.kindOf y = some .local) (hz : X.env.kindOf z = some .local) (ha : PA X [a, b, d] (tEs X.K c es))
    (hl : (py.line == px.line) = true) (hl2 : (pz.line == px.line) = true) (hne : (x == y) = false) (hxz : (x == z) = false) (hyz : (y == z) = false)
    (hp : [a, b, d].all plainE = true) (hf : [a, b, d].all (foldedForSure 8) = false) (ho : [a, b, d].all (constantsAlone 8) = false) :
    PS X (.Assign [.Tuple [.Name x px, .Name y py, .Name z pz] kt pt] (.Tuple [a, b, d] k2 pt2) pos) (tS X.K c W (.par [i, j, l] es)) := by
  refine PS.imp (ps_par3 hc hN hi hj hl' hij hil hjl hx hy hz ha (stores3 hk hx hy hz hl hl2 hne hxz hyz hp hf ho) (sole_no (.inl rfl))) fun D σ H h => ?_
  obtain ⟨hid, ρ, env, S, hE, hs, h⟩ := h
  simp only [execS] at h
  refine tEs.ofS hE hs h fun ys S1 ρ1 H1 vs e1 s1 r1 h1 => ?_
  obtain ⟨env', hb, h2⟩ := h1.some
  match ys, hb, r1 with
  | [u, w, q], hb, r1 =>
    simp only [setAll, Option.some.injEq] at hb
    subst hb
    simp only [RepL] at r1
    obtain ⟨v1, vr, ev, ru, v2, vr2, ev2, rw', v3, vr3, ev3, rq, ev4⟩ := r1
    subst ev4 ev3 ev2 ev
    exact ⟨v1, v2, v3, rfl, h2.pure s1 _ ((((hE.mono e1).set i ru.1 ru.2).set j rw'.1 rw'.2).set l rq.1 rq.2)⟩
  | [], hb, _ => simp [setAll] at hb
  | [_], hb, _ => simp [setAll] at hb
  | [_, _], hb, _ => simp [setAll] at hb
  | _ :: _ :: _ :: _ :: _, hb, _ => simp [setAll] at hb

/-! ### o[i] = e, name op= e -/
theorem set_ok {o i : Expr} (h : noSlice i = true) {env : PySem.Env} : ∀ v, assign (.Subscript o i pos) env v = (do
      let ov ← holding [v] (eval o env)
      let iv ← holding [v, ov] (eval i env)
      standAt pos
      holding [v, ov, iv] (setItem ov iv v)
      release [v, ov, iv] []) := by
  intro v
  cases i <;> first | rfl | (cases h; done)
theorem s_setIx {o i : Expr} {eo ei : E} {tpos : Pos} (hu : X.A.units + 65 < cLine) (ha : PE X xa (tE X.K c ea)) (ho : PE X o (tE X.K c eo)) (hi : PE X i (tE X.K c ei)) (hp : noSlice i = true) : PS X (.Assign [.Subscript o i tpos] xa pos) (tS X.K c W (.setIx eo ei ea)) := by
  refine PS.imp (ps_asg ha (pg_sub ho hi (set_Q (b := c.base) (by omega)) (set_ok hp)) (sole_no (.inr rfl)) (no_storesT rfl _ _) rfl) fun D σ H h => ?_
  obtain ⟨hid, ρ, env, S, hE, hs, h⟩ := h
  simp only [execS] at h
  refine tE.ofS hE hs h fun v S1 ρ1 H1 u e1 s1 r1 f1 h1 => ?_
  refine tE.ofS (hE.mono e1) s1 h1 fun x S2 ρ2 H2 xv e2 s2 r2 f2 h2 => ?_
  refine tE.ofS ((hE.mono e1).mono e2) s2 h2 fun y S3 ρ3 H3 yv e3 s3 r3 f3 h3 => ?_
  refine ⟨hid, ρ3, S3, x, y, v, s3, Rep.mono e3 _ _ r2, r3, Rep.mono e3 _ _ (Rep.mono e2 _ _ r1), ?_⟩
  obtain ⟨_, S4, q, hk⟩ := h3.bind
  rw [q]
  intro ρ4 H4 e4 s4
  exact (hk ρ4 H4 e4).pure s4 σ ((((hE.mono e1).mono e2).mono e3).mono e4)
/-- x op= y of two ints, of two texts -/
def rAug (K : PySem.W.Frag) (op : BOp) : TIp := fun v w H Q => ∃ hid ρ S x y z, SOk K hid ρ H S ∧ Rep K hid ρ H x v ∧ Rep K hid ρ H y w ∧ ((∃ a b, x = .int a ∧ y = .int b) ∨ ∃ a b, x = .str a ∧ y = .str b) ∧ QE.bin S op x y = some z ∧ ∀ u, Rep K hid ρ H z u → Q u H
def augOk : BOp → Bool
  | .add => true
  | .sub => true
  | _ => false
theorem ip_Q {op : BOp} (h : augOk op = true) : PIp X (opOf op) (rAug X.K op) := by
  intro pins s σ H v w vv wv Q I rv rw' hh
  obtain ⟨hid, ρ, S, x, y, z, so, rx, ry, k, e, q⟩ := hh
  rcases k with ⟨a, b, e1, e2⟩ | ⟨a, b, e1, e2⟩
  · subst e1 e2
    cases rx.int_
    cases ry.int_
    cases op with
    | add =>
      cases e
      exact ip_add pins s σ H _ _ vv wv Q I rv rw' ⟨a, b, rfl, rfl, q _ .of_int⟩
    | sub =>
      cases e
      exact ip_sub pins s σ H _ _ vv wv Q I rv rw' ⟨a, b, rfl, rfl, q _ .of_int⟩
    | _ => cases h
  · subst e1 e2
    simp only [Rep] at rx ry
    subst rx ry
    cases op with
    | add =>
      simp only [QE.bin, addV] at e
      split at e
      · cases e
        rename_i hz
        refine iop_add_str pins s σ H _ _ vv wv Q I rv rw' ⟨strOf a, strOf b, rfl, rfl, by rw [strOf_len, strOf_len, ← lim_eq]; exact hz, ?_⟩
        have := q (.str (strOf (a ++ b))) .of_str
        have e3 : strOf (a ++ b) = strOf a ++ strOf b := by
          show strOf (a ++ b) = (⟨(strOf a).cps ++ (strOf b).cps⟩ : Str)
          simp [strOf]
        rw [← e3]
        exact this
      · cases e
    | sub => simp [QE.bin, subV] at e
    | _ => cases h
theorem s_aug {i : Nat} {x : Str} {op : BOp} {pos' : Pos} (hop : augOk op = true) (hN : X.N.Nodup) (hi : X.N[i]? = some x) (hx : Loc X.env.scope x) (ha : PE X xa (tE X.K c ea)) (hf : X.fn x = true ∨ X.env.scope.names.lookup x = some .local) :
    PS X (.AugAssign (.Name x pos') (opOf op) xa pos) (tS X.K c W (.aug i op ea)) := by
  refine PS.imp (ps_aug hN hi hx ha (ip_Q hop) hf) fun D σ H h => ?_
  obtain ⟨hid, ρ, env, S, hE, hs, h⟩ := h
  simp only [execS] at h
  split at h
  · rename_i x0 hx0
    obtain ⟨v, hv, st, rx⟩ := hE.at_ _ _ hx0
    refine ⟨v, hv, ?_⟩
    refine tE.ofS hE hs h fun y S1 ρ1 H1 w e1 s1 r1 f1 h1 => ?_
    have fin : ((∃ a b, x0 = .int a ∧ y = .int b) ∨ ∃ a b, x0 = .str a ∧ y = .str b) → OutS X.K hid ρ1 H1 ((R.of (QE.bin S1 op x0 y) S1).bind fun z S2 => .ok (.nx, env.set i (some z.settle)) S2) (Fin X.K hid H D) (XW c W) → rAug X.K op v w H1 fun z H2 => D.nx (σ.set i (some z)) H2 := fun k h2 => by
      obtain ⟨z, hz, h3⟩ := h2.some
      exact ⟨hid, ρ1, S1, x0, y, z, s1, Rep.mono e1 _ _ rx, r1, k, hz, fun u ru => h3.pure s1 _ ((hE.mono e1).set i (st_settle z) ru.settle)⟩
    split at h1
    · exact fin (.inl ⟨_, _, rfl, rfl⟩) h1
    · exact fin (.inr ⟨_, _, rfl, rfl⟩) h1
    · exact h1.elim
  · exact h.elim
theorem s_ext {i : Nat} {x : Str} {pos' : Pos} (hN : X.N.Nodup) (hi : X.N[i]? = some x) (hx : Loc X.env.scope x) (ha : PE X xa (tE X.K c ea)) (hf : X.fn x = true ∨ X.env.scope.names.lookup x = some .local) :
    PS X (.AugAssign (.Name x pos') .Add xa pos) (tS X.K c W (.ext i ea)) := by
  refine PS.imp (ps_aug hN hi hx ha (iop_Q (b := c.base)) hf) fun D σ H h => ?_
  obtain ⟨hid, ρ, env, S, hE, hs, h⟩ := h
  simp only [execS] at h
  split at h
  · rename_i x0 hx0
    obtain ⟨v, hv, st, rx⟩ := hE.at_ _ _ hx0
    refine ⟨v, hv, ?_⟩
    refine tE.ofS hE hs h fun y S1 ρ1 H1 w e1 s1 r1 f1 h1 => ?_
    refine ⟨hid, ρ1, S1, x0, y, s1, Rep.mono e1 _ _ rx, r1, ?_⟩
    obtain ⟨z, S2, q, hk⟩ := h1.bind
    rw [q]
    intro ρ2 H2 e2 s2 u ru
    have hz : z = x0 := by
      unfold QE.extend at q
      split at q
      · split at q
        · split at q
          · cases q; rfl
          · cases q
        · cases q
      · cases q
    subst hz
    refine (hk ρ2 H2 e2).pure s2 _ ?_
    have := ((hE.mono e1).mono e2).set i st ru
    have hh : env.set i (some z) = env := by
      apply List.ext_getElem?
      intro j
      by_cases hj : i = j
      · subst hj
        rw [hx0]
        exact List.getElem?_set_self (List.getElem?_eq_some_iff.mp hx0).1
      · rw [List.getElem?_set_ne hj]
    rw [hh] at this
    exact this
  · exact h.elim

/-! ### the small ones -/
variable {xs ys : List Stmt} {ss tt : List Stm}
theorem s_expr (ha : PE X xa (tE X.K c ea)) (hn : noComp xa = true) : PS X (.Expr xa pos) (tS X.K c W (.expr ea)) := by
  refine PS.imp (ps_expr ha (no_swaps hn _ _ _)) fun D σ H h => ?_
  obtain ⟨hid, ρ, env, S, hE, hs, h⟩ := h
  simp only [execS] at h
  exact tE.ofS hE hs h fun v S1 ρ1 H1 u e1 s1 r1 f1 h1 => h1.pure s1 σ (hE.mono e1)
theorem s_ret (ha : PE X xa (tE X.K c ea)) : PS X (.Return (some xa) pos) (tS X.K c W (.ret ea)) := by
  refine PS.imp (ps_ret ha) fun D σ H h => ?_
  obtain ⟨hid, ρ, env, S, hE, hs, h⟩ := h
  simp only [execS] at h
  exact tE.ofS hE hs h fun v S1 ρ1 H1 u e1 s1 r1 f1 h1 => h1.pure s1 u r1 f1
theorem s_retN : PS X (.Return none pos) (tS X.K c W .retN) := by
  refine PS.imp ps_retN fun D σ H h => ?_
  obtain ⟨hid, ρ, env, S, hE, hs, h⟩ := h
  simp only [execS] at h
  exact h.pure hs _ .of_non trivial
theorem s_if (ht : PT X xa (tT X.K c ea)) (h1 : PSs X xs (tSs X.K c W ss)) (h2 : PSs X ys (tSs X.K c W tt)) : PS X (.If xa xs ys pos) (tS X.K c W (.if_ ea ss tt)) := by
  refine PS.imp (ps_if ht h1 h2) fun D σ H h => ?_
  obtain ⟨hid, ρ, env, S, hE, hs, h⟩ := h
  simp only [execS] at h
  refine tT.ofS hE hs h fun b S1 ρ1 H1 e1 s1 h1 => ?_
  cases b with
  | true => exact ⟨hid, ρ1, env, S1, hE.mono e1, s1, h1.mono fun z S2 ρ2 H2 e2 q => Fin.anti e1 q⟩
  | false => exact ⟨hid, ρ1, env, S1, hE.mono e1, s1, h1.mono fun z S2 ρ2 H2 e2 q => Fin.anti e1 q⟩
theorem s_pass : PS X (.Pass pos) (tS X.K c W .pass) := by
  refine PS.imp ps_pass fun D σ H h => ?_
  obtain ⟨hid, ρ, env, S, hE, hs, h⟩ := h
  simp only [execS] at h
  exact h.pure hs σ hE
theorem s_brk : PS X (.Break pos) (tS X.K c W .brk) := by
  refine PS.imp ps_break fun D σ H h => ?_
  obtain ⟨hid, ρ, env, S, hE, hs, h⟩ := h
  simp only [execS] at h
  exact h.pure hs σ hE
theorem s_cont : PS X (.Continue pos) (tS X.K c W .cont) := by
  refine PS.imp ps_continue fun D σ H h => ?_
  obtain ⟨hid, ρ, env, S, hE, hs, h⟩ := h
  simp only [execS] at h
  exact h.pure hs σ hE
/-- what no run comes to -/
theorem s_opq {st : Stmt} : PS X st (tS X.K c W .opq) := by
  refine PS.imp ps_never fun D σ H h => ?_
  obtain ⟨hid, ρ, env, S, hE, hs, h⟩ := h
  simp only [execS] at h
  exact h.elim
end
end QE

set_option Elab.async false
set_option linter.all false
set_option maxRecDepth 10000
set_option maxHeartbeats 1000000
/-! A def's run leaves the callers' cells without cells of its own. -/
namespace QE
mutual
theorem low_mono {a b : Nat} (h : a ≤ b) : ∀ v : Val, v.low a = true → v.low b = true
  | .non, _ => rfl
  | .bl _, _ => rfl
  | .int _, _ => rfl
  | .str _, _ => rfl
  | .kls _, _ => rfl
  | .fn _ _, _ => rfl
  | .exn _ _, _ => rfl
  | .tup xs, q => by simp only [Val.low] at q ⊢; exact lowL_mono h xs q
  | .lst _ xs, q => by simp only [Val.low] at q ⊢; exact lowL_mono h xs q
  | .dic _ _ kvs, q => by simp only [Val.low] at q ⊢; exact lowD_mono h kvs q
  | .ref n, q => by simp only [Val.low, decide_eq_true_eq] at q ⊢; omega
theorem lowL_mono {a b : Nat} (h : a ≤ b) : ∀ xs : List Val, Val.lowL a xs = true → Val.lowL b xs = true
  | [], _ => rfl
  | x :: xs, q => by simp only [Val.lowL, Bool.and_eq_true] at q ⊢; exact ⟨low_mono h x q.1, lowL_mono h xs q.2⟩
theorem lowD_mono {a b : Nat} (h : a ≤ b) : ∀ xs : List (Val × Val), Val.lowD a xs = true → Val.lowD b xs = true
  | [], _ => rfl
  | (k, x) :: xs, q => by simp only [Val.lowD, Bool.and_eq_true] at q ⊢; exact ⟨low_mono h x q.1, lowD_mono h xs q.2⟩
end
theorem low_settle {b : Nat} {v : Val} (h : v.settle.low b = true) : v.low b = true := by
  cases v <;> simpa only [Val.settle, Val.low] using h
theorem lowL_app {b : Nat} : ∀ {xs ys : List Val}, Val.lowL b xs = true → Val.lowL b ys = true → Val.lowL b (xs ++ ys) = true
  | [], _, _, h => h
  | x :: xs, ys, h, k => by
    simp only [List.cons_append, Val.lowL, Bool.and_eq_true] at h ⊢
    exact ⟨h.1, lowL_app h.2 k⟩
theorem lowL_set {b : Nat} {v : Val} (hv : v.low b = true) : ∀ {xs : List Val} (j : Nat), Val.lowL b xs = true → Val.lowL b (xs.set j v) = true
  | [], _, h => by simpa using h
  | x :: xs, 0, h => by simp only [List.set_cons_zero, Val.lowL, Bool.and_eq_true] at h ⊢; exact ⟨hv, h.2⟩
  | x :: xs, j + 1, h => by simp only [List.set_cons_succ, Val.lowL, Bool.and_eq_true] at h ⊢; exact ⟨h.1, lowL_set hv j h.2⟩
theorem lowD_app {b : Nat} : ∀ {xs ys : List (Val × Val)}, Val.lowD b xs = true → Val.lowD b ys = true → Val.lowD b (xs ++ ys) = true
  | [], _, _, h => h
  | (k, x) :: xs, ys, h, q => by
    simp only [List.cons_append, Val.lowD, Bool.and_eq_true] at h ⊢
    exact ⟨h.1, lowD_app h.2 q⟩
theorem lowD_map {b : Nat} {k v : Val} (hv : v.low b = true) : ∀ {xs : List (Val × Val)}, Val.lowD b xs = true → Val.lowD b (dMap k v xs) = true
  | [], h => by simpa [dMap] using h
  | (q, x) :: xs, h => by
    simp only [Val.lowD, Bool.and_eq_true] at h
    simp only [dMap]
    split
    · simp only [Val.lowD, Bool.and_eq_true]; exact ⟨hv, lowD_map hv h.2⟩
    · simp only [Val.lowD, Bool.and_eq_true]; exact ⟨h.1, lowD_map hv h.2⟩
theorem lowD_put {b : Nat} {k v : Val} (hv : v.low b = true) {xs : List (Val × Val)} (h : Val.lowD b xs = true) : Val.lowD b (dPut k v xs) = true := by
  unfold dPut
  split
  · exact lowD_map hv h
  · exact lowD_app h (by simp only [Val.lowD, hv, Bool.and_self])
def Ob.low (b : Nat) : Ob → Bool
  | .lst xs => Val.lowL b xs
  | .dic _ kvs => Val.lowD b kvs
  | .tbl _ _ => true
def LowAt (b : Nat) (S : Sto) : Prop := b ≤ S.length ∧ ∀ (n : Nat) (ob : Ob), n < b → S[n]? = some ob → ob.low b = true
def KeepR {α : Type} (b : Nat) (r : R α) : Prop := match r with
  | .ok _ S => LowAt b S
  | .exc _ _ S => LowAt b S
  | .bad => True
section
variable {α β : Type} {b : Nat}
theorem KeepR.bind {r : R α} {f : α → Sto → R β} (h : KeepR b r) (k : ∀ a S, LowAt b S → KeepR b (f a S)) : KeepR b (r.bind f) := by
  cases r with
  | ok a S => exact k a S h
  | exc c p S => exact h
  | bad => exact h
theorem KeepR.calm {r : R α} (h : KeepR b r) : KeepR b r.calm := by
  cases r with
  | ok a S => exact h
  | exc c p S => trivial
  | bad => trivial
theorem KeepR.of {o : Option α} {S : Sto} (h : LowAt b S) : KeepR b (R.of o S) := by
  cases o with
  | some a => exact h
  | none => trivial
theorem LowAt.set {S : Sto} {n : Nat} {ob : Ob} (h : LowAt b S) (k : n < b → ob.low b = true) : LowAt b (S.set n ob) := by
  refine ⟨by rw [List.length_set]; exact h.1, fun m o hm q => ?_⟩
  by_cases e : n = m
  · subst e
    rw [List.getElem?_set_self (by have := h.1; omega)] at q
    cases q
    exact k hm
  · rw [List.getElem?_set_ne e] at q
    exact h.2 m o hm q
theorem LowAt.push {S : Sto} {ob : Ob} (h : LowAt b S) : LowAt b (S ++ [ob]) := by
  refine ⟨by rw [List.length_append]; have := h.1; omega, fun m o hm q => ?_⟩
  rw [List.getElem?_append_left (by have := h.1; omega)] at q
  exact h.2 m o hm q
theorem LowAt.take {S : Sto} {m : Nat} (h : LowAt b S) (hm : b ≤ m) : LowAt b (S.take m) := by
  refine ⟨by rw [List.length_take]; have := h.1; omega, fun n o hn q => ?_⟩
  rw [List.getElem?_take_of_lt (by omega)] at q
  exact h.2 n o hn q
theorem may_low {base n : Nat} {v : Val} (h : mayPut base n v = true) (hb : b ≤ base) (hn : n < b) : v.low b = true := by
  unfold mayPut at h
  simp only [Bool.or_eq_true, decide_eq_true_eq] at h
  rcases h with h | h
  · omega
  · exact low_mono (Nat.zero_le _) v h
theorem keep_append {base : Nat} {S : Sto} {o v : Val} (hb : b ≤ base) (h : LowAt b S) : KeepR b (QE.append base S o v) := by
  unfold QE.append
  split
  · split
    · split
      · rename_i hc
        simp only [Bool.and_eq_true] at hc
        refine LowAt.set h fun hn => ?_
        have := h.2 _ _ hn (by assumption)
        exact lowL_app this (by simp only [Val.lowL, may_low hc.2 hb hn, Bool.and_self])
      · trivial
    · trivial
  · trivial
theorem keep_extend {base : Nat} {S : Sto} {o v : Val} (hb : b ≤ base) (h : LowAt b S) : KeepR b (QE.extend base S o v) := by
  unfold QE.extend
  split
  · rename_i n
    split
    · rename_i xs ys hq _
      split
      · rename_i hc
        simp only [Bool.and_eq_true, Bool.or_eq_true, decide_eq_true_eq] at hc
        refine LowAt.set h fun hn => ?_
        have := h.2 n _ hn hq
        rcases hc.2 with hc | hc
        · omega
        · exact lowL_app this (lowL_mono (Nat.zero_le _) _ hc)
      · trivial
    · trivial
  · trivial
theorem keep_setIx {base : Nat} {S : Sto} {o i v : Val} (hb : b ≤ base) (h : LowAt b S) : KeepR b (QE.setIx base S o i v) := by
  unfold QE.setIx
  split
  · rename_i n
    split
    · rename_i xs hq
      split
      · split
        · split
          · rename_i hc
            refine LowAt.set h fun hn => ?_
            exact lowL_set (may_low hc hb hn) _ (h.2 n _ hn hq)
          · trivial
        · trivial
      · trivial
    · rename_i t kvs hq
      split
      · rename_i hc
        simp only [Bool.and_eq_true] at hc
        refine LowAt.set h fun hn => ?_
        exact lowD_put (may_low hc.2 hb hn) (h.2 n _ hn hq)
      · trivial
    · trivial
  · trivial
theorem keep_cell {S : Sto} {v : Val} (h : LowAt b S) : KeepR b (newCell S v) := by
  unfold newCell
  split
  · exact h.push
  · exact h.push
  · trivial
theorem keep_asInt {v : Val} {S : Sto} (h : LowAt b S) : KeepR b (asInt v S) := by
  cases v <;> first | exact h | trivial
theorem keep_asBl {v : Val} {S : Sto} (h : LowAt b S) : KeepR b (asBl v S) := by
  cases v <;> first | exact h | trivial
theorem keep_range {x y : Int} {S : Sto} (h : LowAt b S) : KeepR b (rangeOf S x y) := by
  unfold rangeOf
  split
  · exact h
  · trivial
theorem keep_if {p : Prop} [Decidable p] {r s : R α} (h1 : KeepR b r) (h2 : KeepR b s) : KeepR b (if p then r else s) := by
  split
  · exact h1
  · exact h2
theorem keep_comp {tg : T} {test : Env → Sto → R Bool} {elt : Env → Sto → R Val} (h1 : ∀ env S, LowAt b S → KeepR b (test env S)) (h2 : ∀ env S, LowAt b S → KeepR b (elt env S)) (env : Env) : ∀ (xs : List Val) (S : Sto), LowAt b S → KeepR b (compLoop tg test elt env xs S)
  | [], S, h => h
  | x :: xs, S, h => by
    unfold compLoop
    split
    · trivial
    · refine (h1 _ S h).bind fun t S1 q1 => ?_
      cases t with
      | true => exact (h2 _ S1 q1).bind fun v S2 q2 => (keep_comp h1 h2 env xs S2 q2).bind fun vs S3 q3 => q3
      | false => exact keep_comp h1 h2 env xs S1 q1
theorem keep_dcomp {tg : T} {t : Bool} {kf vf : Env → Sto → R Val} (h1 : ∀ env S, LowAt b S → KeepR b (kf env S)) (h2 : ∀ env S, LowAt b S → KeepR b (vf env S)) (env : Env) : ∀ (xs : List Val) (acc : List (Val × Val)) (S : Sto), LowAt b S → KeepR b (dcompLoop tg t kf vf env xs acc S)
  | [], acc, S, h => h
  | x :: xs, acc, S, h => by
    unfold dcompLoop
    split
    · trivial
    · exact (h1 _ S h).bind fun k S1 q1 => (h2 _ S1 q1).bind fun v S2 q2 => keep_if (keep_dcomp h1 h2 env xs _ S2 q2) trivial
end
section
variable {b : Nat} {c : Ctx}
theorem keep_guard {g : Nat} {r : R Val} (h : KeepR b r) : KeepR b (guardR c g r) := by
  cases r with
  | ok a S => exact .of h
  | exc k ps S => exact .of h
  | bad => trivial
theorem keep_sub {k : Nat} {S : Sto} {v : Val} (h : LowAt b S) : KeepR b (subOf c k S v) := by
  unfold subOf
  split
  · exact keep_if ((KeepR.of h).bind fun _ _ q => q) trivial
  · trivial
end
section
variable {b : Nat} {c : Ctx} (hb : b ≤ c.base) (hc : ∀ f vs S, LowAt b S → KeepR b (c.call f vs S))
include hb hc
mutual
theorem keepE : ∀ (e : E) (env : Env) (S : Sto), LowAt b S → KeepR b (evalE c e env S)
  | .var i, env, S, h => by simp only [evalE]; split; exact h; trivial
  | .lit v, env, S, h => by simp only [evalE]; exact h
  | .con i, env, S, h => by simp only [evalE]; exact .of h
  | .bin op x y, env, S, h => by simp only [evalE]; exact (keepE x env S h).bind fun _ S1 q => (keepE y env S1 q).bind fun _ S2 q => .of q
  | .neg x, env, S, h => by simp only [evalE]; exact (keepE x env S h).bind fun _ S1 q => (keep_asInt q).bind fun _ _ q => q
  | .cmp op x y, env, S, h => by simp only [evalE]; exact (keepE x env S h).bind fun _ S1 q => (keepE y env S1 q).bind fun _ S2 q => (KeepR.of q).bind fun _ _ q => q
  | .chain o1 o2 x y z, env, S, h => by
    simp only [evalE]
    exact (keepE x env S h).bind fun _ S1 q => (keepE y env S1 q).bind fun _ S2 q => (KeepR.of q).bind fun _ S3 q => keep_if ((keepE z env S3 q).bind fun _ S4 q => (KeepR.of q).bind fun _ _ q => q) q
  | .and es, env, S, h => by simp only [evalE]; exact (keepAnd es env S h).bind fun _ _ q => q
  | .or es, env, S, h => by simp only [evalE]; exact (keepOr es env S h).bind fun _ _ q => q
  | .not x, env, S, h => by simp only [evalE]; exact (keepE x env S h).bind fun _ S1 q => (keep_asBl q).bind fun _ _ q => q
  | .ite t x y, env, S, h => by simp only [evalE]; exact (keepE t env S h).bind fun _ S1 q => (keep_asBl q).bind fun _ S2 q => keep_if (keepE x env S2 q) (keepE y env S2 q)
  | .tup es, env, S, h => by simp only [evalE]; exact (keepEs es env S h).bind fun _ S1 q => keep_if q trivial
  | .list es, env, S, h => by simp only [evalE]; exact (keepEs es env S h).bind fun _ S1 q => keep_if q trivial
  | .dnew t, env, S, h => by simp only [evalE]; exact h
  | .idx x y, env, S, h => by simp only [evalE]; exact (keepE x env S h).bind fun _ S1 q => (keepE y env S1 q).bind fun _ S2 q => .of q
  | .slice x l u, env, S, h => by simp only [evalE]; exact (keepE x env S h).bind fun _ S1 q => (keepO l env S1 q).bind fun _ S2 q => (keepO u env S2 q).bind fun _ S3 q => .of q
  | .call f es, env, S, h => by simp only [evalE]; exact (keepEs es env S h).bind fun _ S1 q => hc f _ S1 q
  | .bi f es, env, S, h => by simp only [evalE]; exact (keepEs es env S h).bind fun _ S1 q => .of q
  | .isi t x, env, S, h => by simp only [evalE]; exact (keepE x env S h).bind fun _ S1 q => (KeepR.of q).bind fun _ _ q => q
  | .meth m o x, env, S, h => by simp only [evalE]; exact (keepE o env S h).bind fun _ S1 q => (KeepR.of q).bind fun _ S2 q => (keepE x env S2 q).bind fun _ S3 q => .of q
  | .append o x, env, S, h => by simp only [evalE]; exact (keepE o env S h).bind fun _ S1 q => (KeepR.of q).bind fun _ S2 q => (keepE x env S2 q).bind fun _ S3 q => keep_append hb q
  | .comp own tg src ifs elt, env, S, h => by
    simp only [evalE]
    exact (keepSrc src env S h).bind fun _ S1 q => (keep_comp (fun env S h => keepAnd ifs env S h) (fun env S h => keepE elt env S h) _ _ S1 q).calm.bind fun _ S2 q => keep_if q trivial
  | .dcomp own tg src t k v, env, S, h => by
    simp only [evalE]
    exact (keepSrc src env S h).bind fun _ S1 q => (keep_dcomp (fun env S h => keepE k env S h) (fun env S h => keepE v env S h) _ _ _ S1 q).calm.bind fun _ S2 q => keep_if q trivial
  | .cell x, env, S, h => by simp only [evalE]; exact (keepE x env S h).bind fun _ S1 q => keep_cell q
  | .d1 t k v, env, S, h => by simp only [evalE]; exact (keepE k env S h).bind fun _ S1 q => (keepE v env S1 q).bind fun _ S2 q => keep_if q trivial
  | .get d k v, env, S, h => by simp only [evalE]; exact (keepE d env S h).bind fun _ S1 q => (KeepR.of q).bind fun _ S1 q => (keepE k env S1 q).bind fun _ S2 q => (keepE v env S2 q).bind fun _ S3 q => .of q
  | .trng x y, env, S, h => by simp only [evalE]; exact (keepE x env S h).bind fun _ S1 q => (keep_asInt q).bind fun _ S2 q => (keepE y env S2 q).bind fun _ S3 q => (keep_asInt q).bind fun _ S4 q => (keep_range q).bind fun _ S5 q => keep_if q trivial
  | .fn f, env, S, h => by simp only [evalE]; exact (KeepR.of h).bind fun _ _ q => q
  | .callV i es, env, S, h => by simp only [evalE]; exact (KeepR.of h).bind fun f S0 q => (keepEs es env S0 q).bind fun _ S1 q => hc f _ S1 q
  | .guard g j p q body, env, S, h => by simp only [evalE]; exact keep_if (keep_guard (keepX body env S h)) trivial
  | .isx x k, env, S, h => by simp only [evalE]; exact (keepE x env S h).bind fun v S1 q => keep_sub q
theorem keepX : ∀ (e : E) (env : Env) (S : Sto), LowAt b S → KeepR b (evalX c e env S)
  | .call f es, env, S, h => by simp only [evalX]; exact (keepEs es env S h).calm.bind fun _ S1 q => hc f _ S1 q
  | .callV i es, env, S, h => by simp only [evalX]; exact (KeepR.of h).bind fun f S0 q => (keepEs es env S0 q).calm.bind fun _ S1 q => hc f _ S1 q
  | .var _, _, _, _ | .lit _, _, _, _ | .con _, _, _, _ | .bin _ _ _, _, _, _ | .neg _, _, _, _ | .cmp _ _ _, _, _, _ | .chain _ _ _ _ _, _, _, _ | .and _, _, _, _ | .or _, _, _, _ | .not _, _, _, _ | .ite _ _ _, _, _, _ | .tup _, _, _, _ | .list _, _, _, _ => by simp only [evalX]; trivial
  | .dnew _, _, _, _ | .idx _ _, _, _, _ | .slice _ _ _, _, _, _ | .bi _ _, _, _, _ | .isi _ _, _, _, _ | .meth _ _ _, _, _, _ | .append _ _, _, _, _ | .comp _ _ _ _ _, _, _, _ | .dcomp _ _ _ _ _ _, _, _, _ | .cell _, _, _, _ | .fn _, _, _, _ | .guard _ _ _ _ _, _, _, _ | .isx _ _, _, _, _ | .d1 _ _ _, _, _, _ | .get _ _ _, _, _, _ | .trng _ _, _, _, _ => by simp only [evalX]; trivial
theorem keepEs : ∀ (es : List E) (env : Env) (S : Sto), LowAt b S → KeepR b (evalEs c es env S)
  | [], env, S, h => by simp only [evalEs]; exact h
  | e :: es, env, S, h => by simp only [evalEs]; exact (keepE e env S h).bind fun _ S1 q => (keepEs es env S1 q).bind fun _ S2 q => q
theorem keepO : ∀ (o : Option E) (env : Env) (S : Sto), LowAt b S → KeepR b (evalO c o env S)
  | none, env, S, h => by simp only [evalO]; exact h
  | some e, env, S, h => by simp only [evalO]; exact (keepE e env S h).bind fun _ S1 q => (keep_asInt q).bind fun _ _ q => q
theorem keepAnd : ∀ (es : List E) (env : Env) (S : Sto), LowAt b S → KeepR b (evalAnd c es env S)
  | [], env, S, h => by simp only [evalAnd]; exact h
  | e :: es, env, S, h => by simp only [evalAnd]; exact (keepE e env S h).bind fun _ S1 q => (keep_asBl q).bind fun _ S2 q => keep_if (keepAnd es env S2 q) q
theorem keepOr : ∀ (es : List E) (env : Env) (S : Sto), LowAt b S → KeepR b (evalOr c es env S)
  | [], env, S, h => by simp only [evalOr]; exact h
  | e :: es, env, S, h => by simp only [evalOr]; exact (keepE e env S h).bind fun _ S1 q => (keep_asBl q).bind fun _ S2 q => keep_if q (keepOr es env S2 q)
theorem keepSrc : ∀ (s : Src) (env : Env) (S : Sto), LowAt b S → KeepR b (evalSrc c s env S)
  | .it e, env, S, h => by simp only [evalSrc]; exact (keepE e env S h).bind fun _ S1 q => .of q
  | .rng1 x, env, S, h => by simp only [evalSrc]; exact (keepE x env S h).bind fun _ S1 q => (keep_asInt q).bind fun _ _ q => keep_range q
  | .rng2 x y, env, S, h => by simp only [evalSrc]; exact (keepE x env S h).bind fun _ S1 q => (keep_asInt q).bind fun _ S2 q => (keepE y env S2 q).bind fun _ S3 q => (keep_asInt q).bind fun _ _ q => keep_range q
  | .enum e, env, S, h => by simp only [evalSrc]; exact (keepE e env S h).bind fun _ S1 q => (KeepR.of q).bind fun _ _ q => q
  | .zip x y, env, S, h => by simp only [evalSrc]; exact (keepE x env S h).bind fun _ S1 q => (keepE y env S1 q).bind fun _ S2 q => (KeepR.of q).bind fun _ _ q => q
  | .zipL x y, env, S, h => by simp only [evalSrc]; exact (keepE x env S h).bind fun _ S1 q => (keepE y env S1 q).bind fun _ S2 q => (KeepR.of q).bind fun _ _ q => q
end
omit hb hc in
theorem keep_for {tg : T} {body : Env → Sto → R (Fl × Env)} (h1 : ∀ env S, LowAt b S → KeepR b (body env S)) : ∀ (xs : List Val) (env : Env) (S : Sto), LowAt b S → KeepR b (forLoop tg body xs env S)
  | [], env, S, h => h
  | x :: xs, env, S, h => by
    unfold forLoop
    split
    · trivial
    · refine (h1 _ S h).bind fun f S1 q => ?_
      split
      · exact keep_for h1 xs _ S1 q
      · exact keep_for h1 xs _ S1 q
      · exact q
      · exact q
omit hb hc in
theorem keep_while {test : Env → Sto → R Bool} {body : Env → Sto → R (Fl × Env)} (h0 : ∀ env S, LowAt b S → KeepR b (test env S)) (h1 : ∀ env S, LowAt b S → KeepR b (body env S)) : ∀ (n : Nat) (env : Env) (S : Sto), LowAt b S → KeepR b (whileLoop test body n env S)
  | 0, env, S, h => trivial
  | n + 1, env, S, h => by
    unfold whileLoop
    refine (h0 _ S h).bind fun t S0 q => ?_
    split
    · refine (h1 _ S0 q).bind fun f S1 q => ?_
      split
      · exact keep_while h0 h1 n _ S1 q
      · exact keep_while h0 h1 n _ S1 q
      · exact q
      · exact q
    · exact q
mutual
theorem keepS : ∀ (s : Stm) (env : Env) (S : Sto), LowAt b S → KeepR b (execS c s env S)
  | .asg tg e, env, S, h => by simp only [execS]; exact (keepE hb hc e env S h).calm.bind fun _ S1 q => (KeepR.of q).bind fun _ _ q => q
  | .par is es, env, S, h => by simp only [execS]; exact (keepEs hb hc es env S h).calm.bind fun _ S1 q => (KeepR.of q).bind fun _ _ q => q
  | .setIx o i e, env, S, h => by
    simp only [execS]
    exact (keepE hb hc e env S h).calm.bind fun _ S1 q => (keepE hb hc o env S1 q).calm.bind fun _ S2 q => (keepE hb hc i env S2 q).calm.bind fun _ S3 q => (keep_setIx hb q).calm.bind fun _ _ q => q
  | .aug i op e, env, S, h => by
    simp only [execS]
    split
    · refine (keepE hb hc e env S h).calm.bind fun _ S1 q => ?_
      split
      · exact (KeepR.of q).bind fun _ _ q => q
      · exact (KeepR.of q).bind fun _ _ q => q
      · trivial
    · trivial
  | .ext i e, env, S, h => by
    simp only [execS]
    split
    · exact (keepE hb hc e env S h).calm.bind fun _ S1 q => (keep_extend hb q).calm.bind fun _ _ q => q
    · trivial
  | .expr e, env, S, h => by simp only [execS]; exact (keepE hb hc e env S h).calm.bind fun _ S1 q => q
  | .ret e, env, S, h => by simp only [execS]; exact (keepE hb hc e env S h).calm.bind fun _ S1 q => q
  | .retN, env, S, h => by simp only [execS]; exact h
  | .if_ t x y, env, S, h => by simp only [execS]; exact (keepE hb hc t env S h).calm.bind fun _ S1 q => (keep_asBl q).bind fun _ S2 q => keep_if (keepSs x env S2 q) (keepSs y env S2 q)
  | .for_ tg src body, env, S, h => by simp only [execS]; exact (keepSrc hb hc src env S h).calm.bind fun _ S1 q => keep_for (fun env S h => keepSs body env S h) _ _ S1 q
  | .while_ t body, env, S, h => by simp only [execS]; exact keep_while (fun env S h => ((keepE hb hc t env S h).bind fun _ S1 q => keep_asBl q).calm) (fun env S h => keepSs body env S h) _ _ S h
  | .brk, env, S, h => by simp only [execS]; exact h
  | .cont, env, S, h => by simp only [execS]; exact h
  | .pass, env, S, h => by simp only [execS]; exact h
  | .raise_ k, env, S, h => by simp only [execS]; exact h
  | .xcall e, env, S, h => by simp only [execS]; exact (keepX hb hc e env S h).bind fun _ S1 q => q
  | .opq, env, S, h => by simp only [execS]; trivial
theorem keepSs : ∀ (s : List Stm) (env : Env) (S : Sto), LowAt b S → KeepR b (execSs c s env S)
  | [], env, S, h => by simp only [execSs]; exact h
  | s :: ss, env, S, h => by
    simp only [execSs]
    refine (keepS s env S h).bind fun f S1 q => ?_
    split
    · exact keepSs ss _ S1 q
    · exact q
end
end
theorem keepFn {P : Prog} {b : Nat} : ∀ (k f : Nat) (vs : List Val) (S : Sto), LowAt b S → KeepR b (callFn P k f vs S)
  | 0, f, vs, S, h => trivial
  | k + 1, f, vs, S, h => by
    unfold callFn
    split
    · trivial
    · rename_i d hd
      refine keep_if ?_ trivial
      have := keepSs (c := ctxOf P (callFn P k) S.length) h.1 (fun f vs S h => keepFn k f vs S h) d.body (vs.map some ++ List.replicate (d.size - d.arity) none) S h
      revert this
      generalize execSs _ _ _ _ = r
      intro this
      unfold finish
      split
      · refine keep_if this (.of (LowAt.take this h.1))
      · exact LowAt.take this h.1
      · trivial
      · exact LowAt.take this h.1
      · trivial
end QE

set_option Elab.async false
set_option linter.all false
set_option maxRecDepth 100000
set_option maxHeartbeats 2000000
/-! A list comprehension over zip of two lists within an except suite. -/
namespace QH
open PySem PySem.Spec PyProof.Rows L2 HotX L2H
section
variable {prog : Program} {w : World} {A : Around} {E : Value → Shared → Prop} {s : Shared}
/-- the record of the handled exception -/
def Quiet (h : Heap) (x : Addr) : Prop := ∃ (o : Obj) (vs : Array Value), h.get? x = some o ∧ o.data = .fields vs ∧ vs[2]? = some .none
theorem Quiet.mono {h h' : Heap} {x : Addr} (q : Quiet h x) (k : ∀ o, h.get? x = some o → h'.get? x = some o) : Quiet h' x := by
  obtain ⟨o, vs, e, d, c⟩ := q
  exact ⟨o, vs, k o e, d, c⟩
/-- a list's iterator at its end, an exception being handled -/
theorem next_end {it l x : Addr} {i : Nat} {items : Array Value} {Q : Value → Shared → Prop} (hA : A.handled = some (.ref x)) (q : Quiet s.heap x) (nx : x ≠ it)
    (at_ : s.heap.IsListIter it l i) (li : s.heap.IsList l items) (ends : items[i]? = none)
    (hE : ∀ h' e, Heap.ExtBut it s.heap h' → (∃ o, h'.get? e = some o ∧ o.cls = .type "StopIteration") → E (.ref e) { s with heap := h' }) :
    wpAny (model prog w) A (Builtin.SmallTypes.nextOf (.ref it)) Q E s := by
  obtain ⟨io, ige, icl, idt⟩ := id at_
  obtain ⟨lo, lge, _, ln, ldt⟩ := li
  unfold Builtin.SmallTypes.nextOf
  refine wpAny_bind (wpAny_callSpecial?_slot (name := Str.ofString "__next__") at_.typeIs slot_listiter_next (wpAny_call_entry slot_listiter_next at_.typeIs entry_listiter_next ?_ (args_listiter_next _)))
  show wpAny _ _ (field (.ref it) 0 >>= _) _ _ _
  refine wpAny_bind (wpAny_field ige idt (x := .ref l) rfl ?_)
  show wpAny _ _ (if (Value.ref l == Value.none) = true then _ else _) _ _ _
  rw [if_neg (show ¬ ((Value.ref l == Value.none) = true) from Bool.false_ne_true)]
  show wpAny _ _ (field (.ref it) 1 >>= _) _ _ _
  refine wpAny_bind (wpAny_field ige idt (x := .int i 0) rfl ?_)
  show wpAny _ _ (seqItems? (.ref l) >>= _) _ _ _
  refine wpAny_bind (wpAny_seqItems lge ldt ?_)
  simp only [Int.toNat_natCast, ends]
  refine wpAny_bind (wpAny_rule (wpAny_bind (wpAny_setField ige idt (by simp) ?_)))
  show wpAny _ _ (newExc (.type "StopIteration") [] >>= _) _ _ _
  refine wpAny_bind ?_
  simp only [newExc, newTuple]
  refine wpAny_bind (wpAny_newObj_type ?_ (by size_fits))
  refine wpAny_bind (m := firstArgMember _ _) (wpAny_of_eq (a := Value.none) (by first | rfl | (simp only [firstArgMember]; rfl)) ?_)
  refine wpAny_newObj_type ?_ (by size_fits)
  obtain ⟨xo, xs, xge, xdt, xc⟩ := q
  have keep := (Heap.SameBut.update (h := s.heap) (a := it) (f := Obj.mapFields (·.setIfInBounds 0 Value.none))).2 x nx
  have x2 := keep.trans xge
  refine raiseNew_hot (x1 := x) ⟨hA, xo, xs, Heap.get?_push_of_some _ (Heap.get?_push_of_some _ x2), xdt, xc⟩ (Nat.ne_of_lt (Heap.lt_size (Heap.get?_push_of_some _ x2))) (Heap.get?_push_size _ rfl) rfl (by simp only [Array.size_append, List.size_toArray, List.length_cons, List.length_nil] <;> omega) ?_
  refine hE _ _ (fun b o hb e => ?_) ⟨_, Heap.get?_update_self _ (Heap.get?_push_size _ rfl) rfl, rfl⟩
  have e2 := ((Heap.SameBut.update (h := s.heap) (a := it) (f := Obj.mapFields (·.setIfInBounds 0 Value.none))).2 b hb).trans e
  rw [Heap.get?_update_other _ _ (Nat.ne_of_gt (Heap.lt_size (Heap.get?_push_of_some _ e2)))]
  exact Heap.get?_push_of_some _ (Heap.get?_push_of_some _ e2)
/-- a list's iterator, by nextOf, beside the handled exception -/
theorem draws {it l x : Addr} (hA : A.handled = some (.ref x)) (nx : x ≠ it) (nl : l ≠ it) (items : Array Value) :
    Draws prog w A it [it, l, x] items.size (fun i v => items[i]? = some v) (fun i h => (h.IsListIter it l i ∧ h.IsList l items) ∧ Quiet h x) where
  live := fun _ _ st => let ⟨o, ho, _⟩ := st.1.1; ⟨o, ho⟩
  frame := fun _ _ _ st k => ⟨⟨st.1.1.at fun o e => k it (by simp) o e, st.1.2.at fun o e => k l (by simp) o e⟩, st.2.mono fun o e => k x (by simp) o e⟩
  item := fun i s Q E lt st hQ => by
    obtain ⟨⟨a1, a2⟩, a3⟩ := st
    exact wpAny_nextOf_list_item a1 a2 (x := items[i]) (by simp [lt]) fun h' b1 b2 => hQ _ h' s.toks (by simp [lt]) ⟨⟨b1, a2.extBut b2.extBut nl⟩, a3.mono fun o e => b2.extBut x o nx e⟩ b2
  done := fun s Q E st hE => next_end hA st.2 nx st.1.1 st.1.2 (by simp) hE
/-- .. from where it stands -/
theorem draws_at {it l x : Addr} (hA : A.handled = some (.ref x)) (nx : x ≠ it) (nl : l ≠ it) (items : Array Value) (i : Nat) : ∃ (n : Nat) (P : Nat → Value → Prop) (St : Nat → Heap → Prop), Draws prog w A it [it, l, x] n P St ∧
    (∀ h : Heap, h.IsListIter it l i → h.IsList l items → Quiet h x → St i h) ∧ i ≤ n ∧ (items[i]? = none → i = n) := by
  by_cases lt : i < items.size
  · exact ⟨_, _, _, draws hA nx nl items, fun h a b c => ⟨⟨a, b⟩, c⟩, Nat.le_of_lt lt, fun z => by simp [lt] at z⟩
  · have ends : items[i]? = none := by simp; omega
    refine ⟨i, fun _ _ => True, fun j h => j = i ∧ (h.IsListIter it l i ∧ h.IsList l items) ∧ Quiet h x, ⟨fun j h st => let ⟨o, ho, _⟩ := st.2.1.1; ⟨o, ho⟩, fun j h h' st k => ⟨st.1, ⟨st.2.1.1.at fun o e => k it (by simp) o e, st.2.1.2.at fun o e => k l (by simp) o e⟩, st.2.2.mono fun o e => k x (by simp) o e⟩,
      fun j s Q E lt st _ => ?_, fun s Q E st hE => next_end hA st.2.2 nx st.2.1.1 st.2.1.2 ends hE⟩, fun h a b c => ⟨rfl, ⟨a, b⟩, c⟩, Nat.le_refl _, fun _ => rfl⟩
    exact absurd lt (by have := st.1; omega)
/-- a tuple's iterator at its end -/
theorem pyNext_end {it l x : Addr} {i : Nat} {items : Array Value} {Q : Option Value → Shared → Prop} (hA : A.handled = some (.ref x)) (q : Quiet s.heap x) (nx : x ≠ it)
    (at_ : s.heap.IsTupleIter it l i) (li : s.heap.IsTuple l items) (ends : items[i]? = none) (hQ : ∀ h', Heap.ExtBut it s.heap h' → Q none { s with heap := h' }) : wpAny (model prog w) A (pyNext (.ref it)) Q E s := by
  obtain ⟨io, ige, icl, idt⟩ := id at_
  obtain ⟨lo, lge, _, ln, ldt⟩ := li
  unfold pyNext
  refine wpAny_bind (wpAny_attempt (wpAny_callSpecial?_slot (name := Str.ofString "__next__") at_.typeIs F.slot_tuple_iterator_next (wpAny_call_entry F.slot_tuple_iterator_next at_.typeIs F.entry_tuple_iterator_next ?_ (F.args_tuple_iterator_next_1 _))))
  show wpAny _ _ (field (.ref it) 0 >>= _) _ _ _
  refine wpAny_bind (wpAny_field ige idt (x := .ref l) rfl ?_)
  show wpAny _ _ (if (Value.ref l == Value.none) = true then _ else _) _ _ _
  rw [if_neg (show ¬ ((Value.ref l == Value.none) = true) from Bool.false_ne_true)]
  show wpAny _ _ (field (.ref it) 1 >>= _) _ _ _
  refine wpAny_bind (wpAny_field ige idt (x := .int i 0) rfl ?_)
  show wpAny _ _ (seqItems? (.ref l) >>= _) _ _ _
  refine wpAny_bind (wpAny_seqItems lge ldt ?_)
  simp only [Int.toNat_natCast, ends]
  refine wpAny_bind (wpAny_rule (wpAny_bind (wpAny_setField ige idt (by simp) ?_)))
  show wpAny _ _ (newExc (.type "StopIteration") [] >>= _) _ _ _
  refine wpAny_bind ?_
  simp only [newExc, newTuple]
  refine wpAny_bind (wpAny_newObj_type ?_ (by size_fits))
  refine wpAny_bind (m := firstArgMember _ _) (wpAny_of_eq (a := Value.none) (by first | rfl | (simp only [firstArgMember]; rfl)) ?_)
  refine wpAny_newObj_type ?_ (by size_fits)
  obtain ⟨xo, xs, xge, xdt, xc⟩ := q
  have keep := (Heap.SameBut.update (h := s.heap) (a := it) (f := Obj.mapFields (·.setIfInBounds 0 Value.none))).2 x nx
  have x2 := keep.trans xge
  refine raiseNew_hot (x1 := x) ⟨hA, xo, xs, Heap.get?_push_of_some _ (Heap.get?_push_of_some _ x2), xdt, xc⟩ (Nat.ne_of_lt (Heap.lt_size (Heap.get?_push_of_some _ x2))) (Heap.get?_push_size _ rfl) rfl (by simp only [Array.size_append, List.size_toArray, List.length_cons, List.length_nil] <;> omega) ?_
  refine wpAny_bind (wpAny_isInstance (T := "StopIteration") (b := true) ⟨_, Heap.get?_update_self _ (Heap.get?_push_size _ rfl) rfl, rfl⟩ isSubtype_stop ?_)
  refine wpAny_pure (hQ _ fun b o hb e => ?_)
  have e2 := ((Heap.SameBut.update (h := s.heap) (a := it) (f := Obj.mapFields (·.setIfInBounds 0 Value.none))).2 b hb).trans e
  rw [Heap.get?_update_other _ _ (Nat.ne_of_gt (Heap.lt_size (Heap.get?_push_of_some _ e2)))]
  exact Heap.get?_push_of_some _ (Heap.get?_push_of_some _ e2)
/-- a tuple is unpacked -/
theorem unpack_all {l x : Addr} {items : Array Value} {Q : List Value → Shared → Prop} (hA : A.handled = some (.ref x)) (q : Quiet s.heap x) (li : s.heap.IsTuple l items)
    (hQ : ∀ h', Heap.ExtBut s.heap.objs.size s.heap h' → Q items.toList { s with heap := h' }) : wpAny (model prog w) A (unpackItems (.ref l) items.size none) Q E s := by
  have ltl : l ≠ s.heap.objs.size := by obtain ⟨o, e, _⟩ := li; exact Nat.ne_of_lt (Heap.lt_size e)
  have ltx : x ≠ s.heap.objs.size := by obtain ⟨o, _, e, _⟩ := q; exact Nat.ne_of_lt (Heap.lt_size e)
  unfold unpackItems
  refine wpAny_bind ?_
  · unfold notIterableAtAll
    refine wpAny_bind (wpAny_specialOf li.typeIs F.slot_tuple_iter.lookup ?_)
    refine wpAny_pure ?_
    simp only [Bool.false_eq_true, if_false]
    refine wpAny_bind (wpAny_holding (wpAny_pyIter_tuple li ?_))
    refine wpAny_bind (wpAny_holding (wpAny_draw_tuple ltl items.size 0 _ _ ⟨_, Heap.get?_push_size _ rfl, rfl, rfl⟩ (li.push _) (by omega) fun h1 at1 sb1 => ?_))
    rw [show List.take items.size (List.drop 0 items.toList) = items.toList by rw [List.drop_zero]; exact List.take_of_length_le (by simp)]
    rw [if_neg (by simp)]
    have li1 : h1.IsTuple l items := (li.push _).extBut sb1.extBut ltl
    have q1 : Quiet h1 x := q.mono fun o e => sb1.extBut x o ltx (Heap.get?_push_of_some _ e)
    refine wpAny_bind (wpAny_holding (pyNext_end (x := x) hA q1 ltx at1 li1 (by simp) fun h2 sb2 => ?_))
    simp only [Option.isSome_none, Bool.false_eq_true, if_false]
    exact wpAny_pure (hQ h2 fun b o hb e => sb2 b o hb (sb1.extBut b o hb (Heap.get?_push_of_some _ e)))
end
section
variable {X : Cx}
theorem quiet {pins : List (Addr × Obj)} {σ : L2.St} {H : Hp} {s : Shared} (c : HotC X) (I : Inv X pins σ H s) : ∃ x, X.A.handled = some (.ref x) ∧ Quiet s.heap x ∧ ∃ o, (x, o) ∈ X.pn := by
  obtain ⟨p, ⟨hh, vs, d, c⟩, hp⟩ := c
  exact ⟨p.1, hh, ⟨p.2, vs, (I.pin p (List.mem_append_left _ hp)).1, d, c⟩, p.2, hp⟩
theorem pg_tupQ {es : List Expr} {k : Nat} {t : TGs} {n : Nat} {pos : Pos} (hc : HotC X) (h : PGs X es t) (hn : (assignEach es X.env).length = n) (hst : (assignEach es X.env).findIdx? (·.1) = none) : PG X (.Tuple es k pos) (gTup X.K n t) := by
  refine ⟨fun pins s σ H v u Q I r hw => ?_⟩
  obtain ⟨a, xs, e1, hq, hl, hw⟩ := hw
  subst e1
  cases r
  obtain ⟨its, rv, tp, _⟩ := I.tuple hq
  obtain ⟨x, hA, q, _⟩ := quiet hc I
  rw [assign_Tuple]
  refine wpAny_bind (wpAny_standAt ?_)
  unfold unpack
  have sz : (assignEach es X.env).length = its.toArray.size := by simp [hn, ← hl, rv.length]
  rw [sz, hst]
  refine wpAny_bind (wpAny_holding (unpack_all hA q tp fun h' ex => ?_))
  have I1 : Inv X pins σ H { s with heap := h' } := I.kept (t' := s.toks) fun b o e => ex b o (Nat.ne_of_lt (Heap.lt_size e)) e
  exact h.run pins _ σ H xs _ Q I1 (by simpa using rv) hw
end
end QH

set_option Elab.async false
set_option linter.all false
set_option maxRecDepth 100000
set_option maxHeartbeats 2000000
/-! Turns of zip over two lists within an except suite. -/
namespace QH
open PySem PySem.Spec PyProof.Rows L2 HotX L2H
/-- where a zip of two lists stands -/
def ZAt (z TI TO i1 i2 a b : Addr) (i : Nat) (h : Heap) : Prop := (IsZip h z TI TO .none ∧ IsPair h TI (.ref i1) (.ref i2)) ∧ ((∃ u v, IsPair h TO u v) ∧ (h.IsListIter i1 a i ∧ h.IsListIter i2 b i))
theorem five {z TI TO i1 i2 c : Addr} (h : c ∈ [z, TI, TO, i1, i2]) : c = z ∨ c = TI ∨ c = TO ∨ c = i1 ∨ c = i2 := by simpa using h
theorem turn_zipQ {P : Program} {w : World} {K : PySem.W.Frag} {elts : List Expr} {kk : Nat} {tpos : Pos} {a b z TI TO i1 i2 : Addr} (D : ZipApart z TI TO i1 i2 a b) : TurnH P w K (.Tuple elts kk tpos) (Itz K a b) [z, TI, TO, i1, i2] z (ZAt z TI TO i1 i2 a b) where
  mem := by simp
  obj := fun i h st c hc => by
    obtain ⟨⟨s1, s2⟩, ⟨u, v, s3⟩, ⟨o4, s4, _, d4⟩, ⟨o5, s5, _, d5⟩⟩ := st
    rcases five hc with q | q | q | q | q <;> subst q
    · exact ⟨_, s1, fun v q => nomatch q⟩
    · exact ⟨_, s2, fun v q => nomatch q⟩
    · exact ⟨_, s3, fun v q => nomatch q⟩
    · exact ⟨o4, s4, fun v q => by rw [d4] at q; cases q⟩
    · exact ⟨o5, s5, fun v q => by rw [d5] at q; cases q⟩
  keep := fun i h h' st k => by
    obtain ⟨⟨s1, s2⟩, ⟨u, v, s3⟩, s4, s5⟩ := st
    exact ⟨⟨k z (by simp) _ s1, k TI (by simp) _ s2⟩, ⟨u, v, k TO (by simp) _ s3⟩, s4.at fun o q => k i1 (by simp) o q, s5.at fun o q => k i2 (by simp) o q⟩
  item := by
    intro X hP hw hK hc i pins s σ H E I hf st hg
    subst hP hw hK
    obtain ⟨⟨s1, s2⟩, ⟨u0, v0, s3⟩, s4, s5⟩ := st
    obtain ⟨xs, ys, x, y, gx, gy, ex, ey⟩ := hg
    obtain ⟨l1, r1, p1, _⟩ := I.list gx
    obtain ⟨l2, r2, p2, _⟩ := I.list gy
    obtain ⟨u1, e1, t1⟩ := r1.get ex
    obtain ⟨u2, e2, t2⟩ := r2.get ey
    have zl : z < s.heap.objs.size := Heap.lt_size s1
    refine wpAny_pyNext_zip_item D s1 s2 s3 s4 s5 p1.isList p2.isList (x := u1) (y := u2) (by simpa using e1) (by simpa using e2) fun h1 a1 a3 a4 a5 new sz kp => ?_
    refine ⟨_, rfl, wpAny_letOwnedTupleGo_zip (s := { s with heap := h1 }) a1 fun h2 b1 sb => ?_⟩
    have new2 : h2.get? s.heap.objs.size = some { cls := .type "tuple", data := .seq #[u1, u2] } := (sb.2 _ (Nat.ne_of_gt zl)).trans new
    have ok : ObjOk X.prog X.w (upd H s.heap.objs.size (.tup [x, y])) h2 s.heap.objs.size (.tup [x, y]) := ⟨by show 2 ≤ sizeLine; decide, [u1, u2], .cons t1 (.cons t2 .nil), ⟨_, new2, rfl, _, rfl⟩⟩
    have J : Inv X pins σ (upd H s.heap.objs.size (.tup [x, y])) { s with heap := h2 } := I.turnedNew (t' := s.toks) (ch := [z, TI, TO, i1, i2]) (fun c o nc e => by
      have n1 : c ≠ z := fun q => nc (by simp [q])
      have n3 : c ≠ TO := fun q => nc (by simp [q])
      have n4 : c ≠ i1 := fun q => nc (by simp [q])
      have n5 : c ≠ i2 := fun q => nc (by simp [q])
      exact (sb.2 c n1).trans (kp c o n1 n3 n4 n5 e)) hf (Nat.le_refl _) ok
    refine ⟨.ref s.heap.objs.size, _, J, rfl, ⟨_, x, y, rfl, I.hok.fresh (Nat.le_refl _), rfl, fun l hl => by rw [I.list_inj hl gx]; exact ex, fun l hl => by rw [I.list_inj hl gy]; exact ey⟩, ⟨⟨b1, ?_⟩, ⟨u1, u2, ?_⟩, ?_, ?_⟩, fun c hcm => ?_⟩
    · exact (sb.2 _ D.TIz).trans (kp _ _ D.TIz D.TITO D.TIi1 D.TIi2 s2)
    · exact (sb.2 _ D.TOz).trans a3
    · exact a4.at fun o q => (sb.2 _ D.i1z).trans q
    · exact a5.at fun o q => (sb.2 _ D.i2z).trans q
    · have lt : c < s.heap.objs.size := by
        obtain ⟨_, q4, _⟩ := s4
        obtain ⟨_, q5, _⟩ := s5
        rcases five hcm with q | q | q | q | q <;> subst q
        · exact zl
        · exact Heap.lt_size s2
        · exact Heap.lt_size s3
        · exact Heap.lt_size q4
        · exact Heap.lt_size q5
      rw [upd_ne (Nat.ne_of_lt lt)]
      exact (hf c hcm).1
  done := by
    intro X hP hw hK hc i pins s σ H E I hf st hg
    subst hP hw hK
    obtain ⟨⟨s1, s2⟩, ⟨u0, v0, s3⟩, s4, s5⟩ := st
    obtain ⟨xs, ys, gx, gy, ends⟩ := hg
    obtain ⟨l1, r1, p1, _⟩ := I.list gx
    obtain ⟨l2, r2, p2, _⟩ := I.list gy
    obtain ⟨x, hA, q, o, hp⟩ := quiet hc I
    have nx : ∀ c ∈ [z, TI, TO, i1, i2], x ≠ c := fun c hcm => (hf c hcm).2.2.2.2.2 (x, o) (List.mem_append_left _ hp)
    have n1 := nx z (by simp)
    have n3 := nx TO (by simp)
    have n4 := nx i1 (by simp)
    have n5 := nx i2 (by simp)
    have nl1 : a ≠ i1 := D.l1i1
    have nl2 : b ≠ i2 := D.l2i2
    obtain ⟨m1, P1, S1, d1, b1, c1, f1⟩ := draws_at (prog := X.prog) (w := X.w) (A := X.A.in1) hA n4 nl1 l1.toArray i
    obtain ⟨m2, P2, S2, d2, b2, c2, f2⟩ := draws_at (prog := X.prog) (w := X.w) (A := X.A.in1) hA n5 nl2 l2.toArray i
    have S : ZipSep2 z TI TO i1 i2 [i1, a, x] [i2, b, x] := ⟨D.TIz, D.TOz, D.TITO, D.TIi1, by simp, by simp [D.i1z.symm, D.l1z.symm, Ne.symm n1], by simp [D.TOi1, D.l1TO.symm, Ne.symm n3], D.TIi2, by simp, by simp [D.i2z.symm, D.l2z.symm, Ne.symm n1], by simp [D.TOi2, D.l2TO.symm, Ne.symm n3],
      by simp [D.i12, D.l2i1.symm, Ne.symm n4], by simp [D.i12.symm, D.l1i2.symm, Ne.symm n5]⟩
    have en : i = m1 ∨ i = m2 := by
      have z1 := r1.length
      have z2 := r2.length
      rcases ends with q | q
      · exact .inl (f1 (by simp; omega))
      · exact .inr (f2 (by simp; omega))
    refine wpAny_pyNext_zipD2_end S d1 d2 s1 s2 s3 (b1 _ s4 p1.isList q) (b2 _ s5 p2.isList q) c1 c2 en fun h' tk kp => ⟨rfl, ?_⟩
    refine I.turnedL (t' := tk) (ch := [z, TI, TO, i1, i2]) (fun c o nc e => ?_) hf
    exact kp c o (fun q => nc (by simp [q])) (fun q => nc (by simp [q])) (fun q => nc (by simp [q])) (fun q => nc (by simp [q])) e
  self := fun A i s Q E st h => wpAny_pyIter_zip st.1.1 h
end QH

set_option Elab.async false
set_option linter.all false
set_option maxRecDepth 100000
set_option maxHeartbeats 2000000
/-! A list comprehension within an except suite. -/
namespace QH
open PySem PySem.Spec PyProof.Rows L2 HotX L2H
section
variable {X : Cx}
theorem pi_zipQ {e1 e2 : Expr} {ta : TA} {p pos tpos : Pos} {elts : List Expr} {kk : Nat} (hg : Gl X "zip") (hm : X.mg "zip" = none) (ha : PA X [e1, e2] ta) (hs : starEach [e1, e2] X.env = (false, eval e1 X.env) :: starEach [e2] X.env) (hp : (backTo pos (starEach [e2] X.env)).any (·.1) = false) :
    PIH X (.Tuple elts kk tpos) (.Call (.Name "zip" p) [e1, e2] [] pos) (iZip X.K ta) := by
  refine ⟨fun pins s σ H R I h => ?_⟩
  refine Call_ (ld_blt I hg hm PyProof.Rows.boot_zip (PyProof.Rows.callWith_type1 (thn (ha.run pos pins s σ H _ I h) fun us z1 hz => ?_) hs hp))
  obtain ⟨vs, G1, J1, rs, a, b, xs, ys, ev, gx, gy, q⟩ := hz
  subst ev
  cases rs with
  | cons ra rs =>
    cases rs with
    | cons rb rs =>
      cases rs
      cases ra
      cases rb
      obtain ⟨l1, _, p1, _⟩ := J1.list gx
      obtain ⟨l2, _, p2, _⟩ := J1.list gy
      refine call_zip_2 p1.isList p2.isList fun h' a1 a2 a3 a4 a5 _ kp => wpAny_pyIter_zip a1 ?_
      refine ⟨_, [z1.heap.objs.size + 4, z1.heap.objs.size + 2, z1.heap.objs.size + 3, z1.heap.objs.size, z1.heap.objs.size + 1], _, _, G1, rfl, J1.kept (t' := z1.toks) kp, turn_zipQ (PySem.W.ktu_apart z1.heap.objs.size a b p1.lt p2.lt), ⟨⟨a1, a2⟩, ⟨_, _, a3⟩, a4, a5⟩, fun c hc => ?_, q⟩
      have le : z1.heap.objs.size ≤ c := by rcases five hc with q | q | q | q | q <;> subst q <;> omega
      exact J1.fpOk le (J1.hok.fresh le)
/-- a block's context that bears the pins of what is around it -/
abbrev blkQ (X : Cx) (s : Shared) (H : Hp) (scope : Scope) (ce : PySem.Env) (fp : List Addr) : Cx := { X.blk s H scope ce fp with pn := X.pn }
theorem blkQ_hot {s : Shared} {H : Hp} {scope : Scope} {ce : PySem.Env} {fp : List Addr} (c : HotC X) : HotC (blkQ X s H scope ce fp) := c
theorem blkQ_start {pins : List (Addr × Obj)} {σ : L2.St} {H : Hp} {s : Shared} {scope : Scope} {own : List (Str × Nat)} {fp : List Addr} (I : Inv X pins σ H s) (ok : BlkOk X.N X.env.scope scope own) (hN : X.N.Nodup) (hfp : ∀ b ∈ fp, FpOk X pins H b ∧ b < s.heap.objs.size) :
    Inv (blkQ X s H scope (compEnvC scope (cellsFrom (s.heap.objs.size + 1) scope.names (cloFrom X.env.cells scope.names [])) s.heap.objs.size X.env) fp) [] (L2.wipe σ (own.map (·.2))) H { s with heap := pushCells (s.heap.push { cls := .type "dict", data := .dict #[] }) scope.names } := by
  have J := block_start I ok hN hfp
  refine ⟨⟨J.ok.mod, J.ok.kind, J.ok.glob, J.ok.blt, J.ok.above, J.ok.inj, J.ok.has, J.ok.cab, J.ok.hd, J.ok.frames, J.ok.stk, J.ok.exf, J.ok.bs, J.ok.bsz, J.ok.noex, J.ok.exfs, J.ok.funs, J.ok.frf⟩, J.os, J.bare, J.base, J.loc, J.cell, J.free, J.freeC, fun p hp => ?_, J.hok, J.len⟩
  have hp : p ∈ X.pn := by simpa using hp
  obtain ⟨h1, h2, h3, h4, h5⟩ := I.pin p (List.mem_append_left _ hp)
  refine ⟨pushCells_keeps _ _ _ _ (Heap.get?_push_of_some _ h1), h2, ?_, fun z => ?_, h5⟩
  · show p.1 ≠ s.heap.objs.size
    exact Nat.ne_of_lt (Heap.lt_size h1)
  · rcases List.mem_cons.mp (I.stkSub _ z) with q | q
    · exact h3 q
    · exact h4 q
theorem lcQ_core {pins : List (Addr × Obj)} {s : Shared} {σ : L2.St} {H : Hp} {Q : VK} {elt tg iter : Expr} {ifs : List Expr} {scope : Scope} {own : List (Str × Nat)} {pos pos' : Pos} {wi : TI} {g : TG} {tt : TT} {te : TE} {use : Option (Value → Sem Unit)} {Qf : Value → Shared → Prop}
    (hc : HotC X) (hN : X.N.Nodup) (I : Inv X pins σ H s) (hi : PIH X tg iter wi) (ok : BlkOk X.N X.env.scope scope own)
    (hg : ∀ (z : Shared) (G : Hp) (C : Addr) (cl : List (Str × Addr)) (fp : List Addr), PG (blkQ X z G scope (compEnvC scope cl C X.env) fp) tg g)
    (ht : ∀ (z : Shared) (G : Hp) (C : Addr) (cl : List (Str × Addr)) (fp : List Addr), PTs (blkQ X z G scope (compEnvC scope cl C X.env) fp) ifs tt)
    (he : ∀ (z : Shared) (G : Hp) (C : Addr) (cl : List (Str × Addr)) (fp : List Addr), PE (blkQ X z G scope (compEnvC scope cl C X.env) fp) elt te) (hs : ∀ x, foldedSetIterable iter X.env x = pure x)
    (h : tLc wi g tt te (own.map (·.2)) σ H Q)
    (post : ∀ D C z m G, Inv X pins σ G z → Q (.ref D) G → z.heap.Ns C m → FpOk X pins G C → compPost (model X.prog X.w) X.A X.xe use Qf (.ref D) C (.ok .next) z) :
    wpAny (model X.prog X.w) X.A (comprehension (.ListComp elt [⟨tg, iter, ifs, 0⟩] scope pos) scope X.env pos' (newList []) false (eval iter X.env) use) Qf X.xe s := by
  have cap : ∀ y ∈ scope.names, y.2 = .free → ∃ c, X.env.cells.lookup y.1 = some c := fun y hy e => (ok.free y hy e).elim (fun k => I.ok.has _ (.inl k)) fun k => I.ok.has _ (.inr k)
  refine wpAny_comprehension_free (use := use) rfl hs (closure_ok cap) ok.kind (fun y hy e => by rw [ok.uniq y hy, e])
    (thn (hi.run pins s σ H _ I h) fun xv z1 hx => thn hx fun itv z2 hit => ?_)
  obtain ⟨it, fp, tn, J, G2, e, J2, T, at0, fr2, q⟩ := hit
  subst e
  refine wpAny_newObj_type (newEnv_comp ?_) (by show 0 ≤ sizeLine; decide)
  generalize hD : z2.heap.objs.size = D
  have Dn : G2 D = none := J2.hok.fresh (Nat.le_of_eq hD)
  obtain ⟨W, ⟨m0, w0⟩, turn⟩ := q D Dn
  generalize hz3 : ({ z2 with heap := z2.heap.push { cls := .type "list", data := .seq ([] : List Value).toArray } } : Shared) = z3
  have J3 : Inv X pins σ (upd G2 D (.lst [])) z3 := by
    rw [← hz3]
    refine J2.laid (t' := z2.toks) (fun b o e => Heap.get?_push_of_some _ e) (Nat.le_of_eq hD) ⟨Nat.zero_le _, [], 0, .nil, ?_⟩
    rw [← hD]
    exact Heap.get?_push_size _ rfl
  have hp3 : z3.heap = z2.heap.push { cls := .type "list", data := .seq ([] : List Value).toArray } := by rw [← hz3]
  have fr3 : ∀ b ∈ fp, FpOk X pins (upd G2 D (.lst [])) b ∧ b < z3.heap.objs.size := fun b hb => by
    obtain ⟨ob, eb, _⟩ := T.obj _ _ at0 b hb
    have lt := Heap.lt_size eb
    refine ⟨⟨?_, (fr2 b hb).2⟩, by rw [hp3, Heap.size_push]; exact Nat.lt_succ_of_lt lt⟩
    rw [upd_ne (by rw [← hD]; exact Nat.ne_of_lt lt)]
    exact (fr2 b hb).1
  have at3 : tn 0 z3.heap := T.keep _ _ _ at0 fun b _ o e => by rw [hp3]; exact Heap.get?_push_of_some _ e
  have J4 := blkQ_start J3 ok hN fr3
  generalize hcl : cellsFrom (z3.heap.objs.size + 1) scope.names (cloFrom X.env.cells scope.names []) = cls at J4 ⊢
  have pg := hg z3 (upd G2 D (.lst [])) z3.heap.objs.size cls fp
  have pt := ht z3 (upd G2 D (.lst [])) z3.heap.objs.size cls fp
  have pv := he z3 (upd G2 D (.lst [])) z3.heap.objs.size cls fp
  show codeAny _ _ (.compStart (.ListComp elt [⟨tg, iter, ifs, 0⟩] scope pos) 0 (.ref it) (.ref D) (compEnvC scope cls z3.heap.objs.size X.env)) _ { z3 with heap := pushCells (z3.heap.push { cls := .type "dict", data := .dict #[] }) scope.names }
  have nf3 : ∀ b ∈ fp, (upd G2 D (.lst [])) b = none := fun b hb => (fr3 b hb).1.1
  generalize hce : compEnvC scope cls z3.heap.objs.size X.env = ce at J4 pg pt pv ⊢
  have hloc : ce.locals = z3.heap.objs.size := by subst hce; rfl
  generalize hG3 : upd G2 D (.lst []) = G3 at J3 J4 pg pt pv w0 nf3 fr3
  generalize hz4 : ({ z3 with heap := pushCells (z3.heap.push { cls := .type "dict", data := .dict #[] }) scope.names } : Shared) = z4 at J4 ⊢
  have at4 : tn 0 z4.heap := T.keep _ _ _ at3 fun b _ o e => by rw [← hz4]; exact pushCells_keeps _ _ _ _ (Heap.get?_push_of_some _ e)
  have hot : HotC (blkQ X z3 G3 scope ce fp) := blkQ_hot hc
  have own' : ∀ {σ' : L2.St} {H' : Hp} {s' : Shared}, Inv (blkQ X z3 G3 scope ce fp) [] σ' H' s' → (∀ b ∈ fp, H' b = none) → ∀ b ∈ fp, FpOk (blkQ X z3 G3 scope ce fp) [] H' b := fun {σ' H' s'} I' hn b hb =>
    ⟨hn b hb, (I'.ok.exf b hb).1, I'.ok.exfs b hb, .inl hb, fun x c e => (I'.ok.exf b hb).2 x c e, fun p hp => (fr3 b hb).1.2.2.2.2.2 p (List.mem_append_left _ (by simpa using hp))⟩
  have loop : codeAny (model X.prog X.w) X.A (.compLoop (.ListComp elt [⟨tg, iter, ifs, 0⟩] scope pos) 0 (.ref it) (.ref D) ce) (compPost (model X.prog X.w) X.A X.xe use Qf (.ref D) z3.heap.objs.size) z4 := by
    refine compLoop_any (fun n s' => ∃ i H', Inv (blkQ X z3 G3 scope ce fp) [] (L2.wipe σ (own.map (·.2))) H' s' ∧ tn i s'.heap ∧ (∀ b ∈ fp, H' b = none) ∧ W i n H') ?_ m0 ⟨0, G3, J4, at4, nf3, w0⟩
    rintro n z5 ⟨i, G5, J5, at5, nf5, w5⟩
    rcases turn i n G5 w5 with ⟨stop, qq⟩ | ⟨go, Nx, hNx, step⟩
    · refine thnF (T.done (blkQ X z3 G3 scope ce fp) rfl rfl rfl hot i [] z5 _ G5 (fun _ _ => False) J5 (own' J5 nf5) at5 stop) fun r z6 ⟨hr, J6⟩ => ?_
      subst hr
      have J7 : Inv X pins σ G5 z6 := J3.call' (ch := fp) J6.os J6.base J6.hok J6.bare fun b hb => ⟨(fr3 b hb).1.2.2.2.1, (fr3 b hb).1.2.1, (fr3 b hb).1.2.2.2.2.1, (fr3 b hb).1.2.2.2.2.2⟩
      have nC : G5 z3.heap.objs.size = none := hloc ▸ J6.free
      obtain ⟨m, hm, _⟩ := J6.loc
      have hm : z6.heap.Ns ce.locals m := hm
      rw [hloc] at hm
      exact post D z3.heap.objs.size z6 m G5 J7 qq hm (J3.fpOk (Nat.le_refl _) nC)
    · refine thnF (T.item (blkQ X z3 G3 scope ce fp) rfl rfl rfl hot i [] z5 _ G5 (fun _ _ => False) J5 (own' J5 nf5) at5 go) fun r z6 ⟨u, hr, h6⟩ => ?_
      subst hr
      refine thnF h6 fun _ z7 ⟨x, G7, J7, rx, yx, at7, nf7⟩ => ?_
      have J7' := J7.pinned (own' J7 nf7) (T.obj _ _ at7)
      refine thnF (pg.run _ z7 _ G7 x u _ J7' rx (step x G7 yx)) fun _ z8 ⟨σ8, G8, J8, hw8, q8⟩ => ?_
      refine thnF (pt.run _ z8 σ8 G8 _ J8 q8) fun b z9 ⟨G9, J9, q9⟩ => ?_
      have fin : ∀ {s' : Shared} {H' : Hp}, Inv (blkQ X z3 G3 scope ce fp) ([] ++ pinsAt fp z7.heap) σ8 H' s' → Nx H' → ∃ m, m < n ∧ ∃ i H', Inv (blkQ X z3 G3 scope ce fp) [] (L2.wipe σ (own.map (·.2))) H' s' ∧ tn i s'.heap ∧ (∀ b ∈ fp, H' b = none) ∧ W i m H' := fun {s' H'} I' nx => by
        obtain ⟨m', hm, w'⟩ := hNx H' nx
        have pin' : ∀ b ∈ fp, ∀ o, z7.heap.get? b = some o → s'.heap.get? b = some o ∧ H' b = none := fun b hb o e =>
          let p := I'.pin (b, o) (List.mem_append_right _ (List.mem_append_right _ (mem_pinsAt hb e)))
          ⟨p.1, p.2.1⟩
        have hl : (L2.wipe σ (own.map (·.2))).length = σ8.length := by rw [← hw8, wipe_length]
        refine ⟨m', hm, i + 1, H', (I'.unpinned (pins := [])).weak hl (fun j v e => (wipe_some (hw8 ▸ e)).1), T.keep _ _ _ at7 fun b hb o e => (pin' b hb o e).1, fun b hb => ?_, w'⟩
        obtain ⟨o, e, _⟩ := T.obj _ _ at7 b hb
        exact (pin' b hb o e).2
      cases b with
      | false =>
        simp only [Bool.false_eq_true, if_false] at q9 ⊢
        exact fin J9 q9
      | true =>
        simp only [if_true] at q9 ⊢
        refine thnF (pv.run _ z9 σ8 G9 _ J9 q9) fun v z10 ⟨yv, G10, J10, r10, acc, eD, za, nx⟩ => ?_
        exact app_ok (X := blkQ X z3 G3 scope ce fp) J10 eD za r10 fun z11 J11 => fin J11 nx
  exact codeAny_compStart_list loop (T.self X.A 0 _ _ _ at4 loop)
theorem pe_lcQ {elt tg iter : Expr} {ifs : List Expr} {scope : Scope} {own : List (Str × Nat)} {pos : Pos} {wi : TI} {g : TG} {tt : TT} {te : TE} (hc : HotC X) (hN : X.N.Nodup) (hi : PIH X tg iter wi) (ok : BlkOk X.N X.env.scope scope own)
    (hg : ∀ (z : Shared) (G : Hp) (C : Addr) (cl : List (Str × Addr)) (fp : List Addr), PG (blkQ X z G scope (compEnvC scope cl C X.env) fp) tg g)
    (ht : ∀ (z : Shared) (G : Hp) (C : Addr) (cl : List (Str × Addr)) (fp : List Addr), PTs (blkQ X z G scope (compEnvC scope cl C X.env) fp) ifs tt)
    (he : ∀ (z : Shared) (G : Hp) (C : Addr) (cl : List (Str × Addr)) (fp : List Addr), PE (blkQ X z G scope (compEnvC scope cl C X.env) fp) elt te) (hs : ∀ x, foldedSetIterable iter X.env x = pure x) :
    PE X (.ListComp elt [⟨tg, iter, ifs, 0⟩] scope pos) (tLc wi g tt te (own.map (·.2))) := by
  refine ⟨fun pins s σ H Q I h => ?_⟩
  rw [eval_ListComp]
  refine lcQ_core hc hN I hi ok hg ht he hs h fun D C z m G I' q hm f => ⟨m, hm, fun h'' sb => ?_⟩
  obtain ⟨f0, f1, f2, f3, f4, f5⟩ := f
  exact ⟨.ref D, G, I'.turned (t' := z.toks) (fun b o hb e => (sb.2 b hb).trans e) f0 f1 f3 f4 f5, rfl, q⟩
/-- name = [..] on one line, the name a local -/
theorem ps_setLcQ {i : Nat} {y : Str} {py : Pos} {elt tg iter : Expr} {ifs : List Expr} {scope : Scope} {own : List (Str × Nat)} {pos spos : Pos} {wi : TI} {g : TG} {tt : TT} {te : TE} (hc : HotC X) (hN : X.N.Nodup)
    (hy : X.N[i]? = some y) (hyl : X.env.scope.names.lookup y = some .local) (hsw : swapsWith (.ListComp elt [⟨tg, iter, ifs, 0⟩] scope pos) (some (.Name y py)) spos.line X.env = pure true) (hi : PIH X tg iter wi) (ok : BlkOk X.N X.env.scope scope own)
    (hg : ∀ (z : Shared) (G : Hp) (C : Addr) (cl : List (Str × Addr)) (fp : List Addr), PG (blkQ X z G scope (compEnvC scope cl C X.env) fp) tg g)
    (ht : ∀ (z : Shared) (G : Hp) (C : Addr) (cl : List (Str × Addr)) (fp : List Addr), PTs (blkQ X z G scope (compEnvC scope cl C X.env) fp) ifs tt)
    (he : ∀ (z : Shared) (G : Hp) (C : Addr) (cl : List (Str × Addr)) (fp : List Addr), PE (blkQ X z G scope (compEnvC scope cl C X.env) fp) elt te) (hs : ∀ x, foldedSetIterable iter X.env x = pure x) :
    PS X (.Assign [.Name y py] (.ListComp elt [⟨tg, iter, ifs, 0⟩] scope pos) spos) (tAsg (tLc wi g tt te (own.map (·.2))) (gName i)) := by
  refine ⟨fun pins s σ H D I h => ?_⟩
  rw [exec_Assign_Name_used _ _ _ _ hsw]
  refine wpAny_bind (wpAny_standAt (wpAny_bind ?_))
  show wpAny _ X.A (do let _ ← comprehension (.ListComp elt [⟨tg, iter, ifs, 0⟩] scope pos) scope X.env (firstIterPos [⟨tg, iter, ifs, 0⟩] pos) (newList []) false (eval iter X.env) (some (assign (.Name y py) X.env))) _ _ _
  have h : tLc wi g tt te (own.map (·.2)) σ H (fun x G => gName i x σ G D.nx) := h
  refine wpAny_bind (thn (lcQ_core (Qf := fun _ s' => SP X pins D .next s') hc hN I hi ok hg ht he hs h fun L C z m G I' q hm f => ?_) fun _ s' hq => wpAny_pure (wpAny_pure hq))
  show wpAny _ _ (assign (.Name y py) X.env (.ref L)) _ _ _
  refine wpAny_assign_Name (store_ok2 (v := V.ref L) I' hN hy (.inl hyl) rfl (fun s2 I2 ⟨a, sb, ha⟩ => ?_) (.inr hyl))
  obtain ⟨f0, f1, f2, f3, f4, f5⟩ := f
  have apart : C ≠ a := by
    rcases ha with z | z
    · rw [z]; exact f1
    · exact fun e => f4 y a z e.symm
  exact ⟨m, hm.sameBut sb apart, fun h3 sb3 => ⟨_, G, I2.turned (t' := s2.toks) (fun b o hb e => (sb3.2 b hb).trans e) f0 f1 f3 f4 f5, q⟩⟩
end
end QH

set_option Elab.async false
set_option linter.all false
set_option maxRecDepth 10000
set_option maxHeartbeats 1000000
/-! Calls that may raise, defs as values, raise, isinstance of a caught exception. -/
namespace QE
open PySem PySem.Spec PyProof.Rows L2
/-- a call that may raise: Z is what is wished of an exception -/
def tX (K : PySem.W.Frag) (c : Ctx) (e : E) (Z : XK) : TE := fun σ H Q => ∃ hid ρ env S, ERep K hid ρ H env σ ∧ SOk K hid ρ H S ∧
  OutS K hid ρ H (evalX c e env S) (fun x S' ρ' H' => ∀ v, Rep K hid ρ' H' x v → Fresh K hid ρ' H' S' H x v → Q v H') (fun k _ _ H' => ∀ C, c.cls k = some C → Z (.ref C) none H')
section
variable {X : Cx} {c : Ctx} {W : L2.WX} {Z : XK} {pos p p2 : Pos} {x y : Str} {fa : Addr} {fd : FuncData} {ps : List Str} {k f i : Nat} {xa : Expr} {xs : List Expr} {es : List E}
theorem x_read {σ : L2.St} {H : Hp} {Q : VK} (h : tX X.K c (.call f es) Z σ H Q) : tCall (spF X.K c.cls c.call f) [] Z (tEs X.K c es) σ H Q := by
  obtain ⟨hid, ρ, env, S, hE, hs, h⟩ := h
  simp only [evalX] at h
  refine tEs.ofS hE hs h fun ys S1 ρ1 H1 vs e1 s1 r1 h1 => ⟨hid, ρ1, S1, ys, s1, ?_, h1.mono fun z S2 ρ2 H2 e q u ru fu => q u ru (fu.anti e1)⟩
  rw [List.append_nil]
  exact r1
theorem x_call (F : FnOk X.prog X.w X.K X.mg X.base (L2N.CX X.prog X.w) k fa fd ps (spF X.K c.cls c.call f)) (hr : Room k X.A) (hg : Gl X x) (hm : X.mg x = some (.ref fa)) (hk : PySem.W.keepIn X.K (.ref fa) = true) (hb : Binds X.K fd ps []) (hx : Passes (L2N.CX X.prog X.w) X Z)
    (ha : PA X (xa :: xs) (tEs X.K c es)) (hdb : (x == ("__debug__" : Str)) = false) (hp : (xa :: xs).all plainE = true) : PE X (.Call (.Name x p) (xa :: xs) [] pos) (tX X.K c (.call f es) Z) := by
  have hp' := hp
  simp only [List.all_cons, Bool.and_eq_true] at hp'
  exact PE.imp (pe_call F hr hg hm hk hb .nil hx ha hdb (star_cons hp'.1 _ _) (star_none _ _ _ hp'.2)) fun σ H Q h => x_read h
theorem fnAt_ok {env : Env} {σ : L2.St} {K : PySem.W.Frag} {hid ρ : List Addr} {H : Hp} (hE : ERep K hid ρ H env σ) (h : fnAt c env i = some f) : ∃ a, c.adr f = some a ∧ σ[i]? = some (some (.ref a)) := by
  unfold fnAt at h
  split at h
  · rename_i g a q
    split at h
    · rename_i ha
      cases h
      obtain ⟨v, h1, _, h2⟩ := hE.at_ _ _ q
      simp only [Rep] at h2
      subst h2
      exact ⟨a, ha, h1⟩
    · cases h
  · cases h
/-- where the defs lie, and what they promise -/
def Fns (X : Cx) (c : Ctx) : Prop := ∀ f a, c.adr f = some a → ∃ k fd ps, FnOk X.prog X.w X.K X.mg X.base (L2N.CX X.prog X.w) k a fd ps (spF X.K c.cls c.call f) ∧ Room k X.A ∧ PySem.W.keepIn X.K (.ref a) = true ∧ Binds X.K fd ps []
theorem x_callV (A : Fns X c) (hN : X.N[i]? = some x) (hv : Vis X.env.scope x) (hx : Passes (L2N.CX X.prog X.w) X Z) (ha : PA X (xa :: xs) (tEs X.K c es)) (hdb : (x == ("__debug__" : Str)) = false) (hcd : (x == ("__classdict__" : Str)) = false) (hp : (xa :: xs).all plainE = true) :
    PE X (.Call (.Name x p) (xa :: xs) [] pos) (tX X.K c (.callV i es) Z) := by
  have hp' := hp
  simp only [List.all_cons, Bool.and_eq_true] at hp'
  refine ⟨fun pins s σ H Q I h => ?_⟩
  obtain ⟨hid, ρ, env, S, hE, hs, h⟩ := h
  simp only [evalX] at h
  obtain ⟨f, hf, h⟩ := h.some
  obtain ⟨a, ea, hσ⟩ := fnAt_ok hE hf
  obtain ⟨k, fd, ps, F, hr, hk, hb⟩ := A f a ea
  refine (pe_callL (i := i) (f := a) (E := Z) F hr hN hv hk hb .nil hx ha hdb hcd (star_cons hp'.1 _ _) (star_none _ _ _ hp'.2)).run pins s σ H Q I ⟨hσ, ?_⟩
  refine tEs.ofS hE hs h fun ys S1 ρ1 H1 vs e1 s1 r1 h1 => ⟨hid, ρ1, S1, ys, s1, ?_, h1.mono fun z S2 ρ2 H2 e q u ru fu => q u ru (fu.anti e1)⟩
  rw [List.append_nil]
  exact r1
theorem s_callV (A : Fns X c) (hN : X.N[i]? = some x) (hv : Vis X.env.scope x) (ha : PA X (xa :: xs) (tEs X.K c es)) (hdb : (x == ("__debug__" : Str)) = false) (hcd : (x == ("__classdict__" : Str)) = false) (hp : (xa :: xs).all plainE = true) :
    PE X (.Call (.Name x p) (xa :: xs) [] pos) (tE X.K c (.callV i es)) := by
  have hp' := hp
  simp only [List.all_cons, Bool.and_eq_true] at hp'
  refine ⟨fun pins s σ H Q I h => ?_⟩
  obtain ⟨hid, ρ, env, S, hE, hs, h⟩ := h
  simp only [evalE] at h
  obtain ⟨f, hf, h⟩ := h.some
  obtain ⟨a, ea, hσ⟩ := fnAt_ok hE hf
  obtain ⟨k, fd, ps, F, hr, hk, hb⟩ := A f a ea
  refine (pe_callL (i := i) (f := a) (E := E0) F hr hN hv hk hb .nil passN ha hdb hcd (star_cons hp'.1 _ _) (star_none _ _ _ hp'.2)).run pins s σ H Q I ⟨hσ, ?_⟩
  refine tEs.of hE hs h fun ys S1 ρ1 H1 vs e1 s1 r1 h1 => ⟨hid, ρ1, S1, ys, s1, ?_, (h1.mono fun z S2 ρ2 H2 e q u ru fu => q u ru (fu.anti e1)).toS⟩
  rw [List.append_nil]
  exact r1
theorem s_fn (hm : ∀ a, c.adr f = some a → X.mg x = some (.ref a)) (hg : Gl X x) (hd : (x == ("__debug__" : Str)) = false) : PE X (.Name x pos) (tE X.K c (.fn f)) := by
  refine ⟨fun pins s σ H Q I h => ?_⟩
  obtain ⟨hid, ρ, env, S, he, hs, h⟩ := h
  simp only [evalE] at h
  obtain ⟨a, e, h⟩ := h.some
  exact (pe_glob (v := .ref a) hg (hm a e) rfl hd).run pins s σ H Q I (fin_same hs h (by simp only [Rep]) trivial)
/-- a statement that is a call and may raise -/
theorem s_xcall (tk : L2N.Takes X W) (F : FnOk X.prog X.w X.K X.mg X.base (L2N.CX X.prog X.w) k fa fd ps (spF X.K c.cls c.call f)) (hr : Room k X.A) (hg : Gl X x) (hm : X.mg x = some (.ref fa)) (hk : PySem.W.keepIn X.K (.ref fa) = true) (hb : Binds X.K fd ps [])
    (ha : PA X (xa :: xs) (tEs X.K c es)) (hdb : (x == ("__debug__" : Str)) = false) (hp : (xa :: xs).all plainE = true) : PS X (.Expr (.Call (.Name x p) (xa :: xs) [] p2) pos) (tS X.K c W (.xcall (.call f es))) := by
  have hp' := hp
  simp only [List.all_cons, Bool.and_eq_true] at hp'
  refine PS.imp (ps_expr (pe_callS (E := WE W) F hr hg hm hk hb (fun σ => L2N.passAt tk σ) ha hdb (star_cons hp'.1 _ _) (star_none _ _ _ hp'.2)) (no_swaps rfl _ _ _)) fun D σ H h => ?_
  obtain ⟨hid, ρ, env, S, hE, hs, h⟩ := h
  simp only [execS, evalX] at h
  rw [R.bind_assoc] at h
  refine tEs.ofS hE hs h fun ys S1 ρ1 H1 vs e1 s1 r1 h1 => ⟨hid, ρ1, S1, ys, s1, r1, ?_⟩
  have h2 : OutS X.K hid ρ1 H1 (c.call f ys S1) (Gv X.K hid H1 fun _ H2 => D.nx σ H2) (XW c W) := h1.seq fun z S2 ρ2 H2 e2 s2 q u _ _ => q.pure s2 σ ((hE.mono e1).mono e2)
  revert h2
  generalize c.call f ys S1 = r
  intro h2
  cases r with
  | ok a S2 => exact h2
  | exc _ _ _ => exact fun ρ2 H2 e2 s2 C hC => h2 ρ2 H2 e2 s2 C hC σ
  | bad => exact h2.elim
/-- what the text must say of a class of exceptions that is raised -/
structure Rais (K : PySem.W.Frag) (C : Addr) : Prop where
  own : ∃ (bmB : List Value) (B newId initId : String), ExcBaseFacts B newId initId bmB ∧ PySem.W.excIn K C bmB newId = true
  kp : PySem.W.keepIn K (.ref C) = true
  sub : PySem.W.subIn K (.ref C) (.type "BaseException") = some true
  ty : PySem.W.typeIn K (.ref C) = some (.type "type")
theorem s_raise {C : Addr} {m : Str} {j : Nat} {pp : Pos} (hc : X.calm = true) (tk : L2N.Takes X W) (R : Rais X.K C) (hm : X.mg x = some (.ref C)) (hC : c.cls k = some C) (hg : Gl X x) (hd : (x == ("__debug__" : Str)) = false) :
    PS X (.Raise (some (.Call (.Name x p) [.Constant (.str m) j p2] [] pp)) none pos) (tS X.K c W (.raise_ k)) := by
  obtain ⟨bmB, B, n, i, F, q⟩ := R.own
  refine PS.imp (L2N.ps_raise hc tk (L2N.pmk_own F q hm R.kp (raises_own R.sub R.ty) hg hd)) fun D σ H h => ?_
  obtain ⟨hid, ρ, env, S, hE, hs, h⟩ := h
  simp only [execS] at h
  exact h ρ H (Ext.refl _ _) hs C hC σ
/-- a class by its name: an own one or a built-in -/
def ClsV (X : Cx) (x : Str) (u : V) (cv : Value) : Prop := (∀ pos, PE X (.Name x pos) (tC u)) ∧ ∀ w, RelV u w → w = cv
theorem s_isx {ea : E} {xb : Expr} {u : V} {cv : Value} (ex : x = PySem.Str.ofString "isinstance") (hg : Gl X x) (hm : X.mg x = none) (hn : x ≠ "__name__") (hdb : (x == ("__debug__" : Str)) = false) (ha : PE X xb (tE X.K c ea)) (hp : plainE xb = true) (hy : ClsV X y u cv)
    (hS : ∀ k' a D b, c.exn = some (k', a) → c.cls k' = some D → c.sub k' k = some b → PySem.W.kitOne X.K (.ref D) cv = some b)
    (hC : ∀ k' a, c.exn = some (k', a) → ∃ D, c.cls k' = some D ∧ CallR X (.builtin "isinstance") (rIsE X.K D a)) :
    PE X (.Call (.Name x p) [xb, .Name y p2] [] pos) (tE X.K c (.isx ea k)) := by
  have b1 : bootBuiltins x = some (.builtin "isinstance") := by rw [ex]; decide +kernel
  refine ⟨fun pins s σ H Q I h => ?_⟩
  cases he : c.exn with
  | none =>
    obtain ⟨hid, ρ, env, S, hE, hs, h⟩ := h
    simp only [evalE] at h
    obtain ⟨z, S1, q, hk⟩ := h.bind
    have := hk ρ H (Ext.refl _ _)
    unfold subOf at this
    split at this
    · rw [he, if_neg (by intro z; cases z)] at this
      exact this.elim
    · exact this.elim
  | some ka =>
    obtain ⟨k', a⟩ := ka
    obtain ⟨D, hD, cr⟩ := hC k' a he
    refine (pe_callB cr hg hm b1 (pa_cons ha (pa_cons (hy.1 p2) pa_nil (star_cons rfl _ _)) (star_cons hp _ _)) hn hdb (star_cons hp _ _) (star_none _ _ _ rfl)).run pins s σ H Q I ?_
    obtain ⟨hid, ρ, env, S, hE, hs, h⟩ := h
    simp only [evalE] at h
    refine tE.of hE hs h fun z S1 ρ1 H1 v e1 s1 r1 f1 h1 => ?_
    unfold subOf at h1
    split at h1
    · rename_i k2 a2
      split at h1
      · rename_i hq
        rw [he] at hq
        cases hq
        obtain ⟨b, hb, h2⟩ := h1.some
        simp only [Rep] at r1
        subst r1
        exact ⟨u, cv, b, rfl, hy.2, hS _ _ _ _ he hD hb, h2.pure s1 _ .of_bl trivial⟩
      · exact h1.elim
    · exact h1.elim
end
end QE

set_option Elab.async false
set_option linter.all false
set_option maxRecDepth 10000
set_option maxHeartbeats 1000000
/-! A lambda without parameters handed to a def that calls it and catches: exceptions whose context is None. -/
namespace QE
open PySem PySem.Spec PyProof.Rows L2 LamX
section
variable {X : Cx} {pins : List (Addr × Obj)} {σ : L2.St} {H HZ : Hp} {s s1 : Shared}
/-- the context of the lambda's body -/
abbrev lamQ (X : Cx) (A : Around) (outer : List PySem.Env) (s : Shared) (H : Hp) (Z : XK) (scope : Scope) (f c' : Addr) : Cx :=
  { lamCx X A outer s H Z scope f c' with xe := fun e s' => wpAny (model X.prog X.w) (A.deeper (lamEnv X scope s.heap.objs.size f c')) (leaving (lamEnv X scope s.heap.objs.size f c') e) (fun _ s'' => L2N.CX X.prog X.w outer H s Z e s'') (fun e' s'' => L2N.CX X.prog X.w outer H s Z e' s'') s' }
theorem inv_xe {xe : Value → Shared → Prop} (I : Inv X pins σ H s) : Inv { X with xe := xe } pins σ H s :=
  ⟨⟨I.ok.mod, I.ok.kind, I.ok.glob, I.ok.blt, I.ok.above, I.ok.inj, I.ok.has, I.ok.cab, I.ok.hd, I.ok.frames, I.ok.stk, I.ok.exf, I.ok.bs, I.ok.bsz, I.ok.noex, I.ok.exfs, I.ok.funs, I.ok.frf⟩, I.os, I.bare, I.base, I.loc, I.cell, I.free, I.freeC, I.pin, I.hok, I.len⟩
theorem lamQ_takes {A : Around} {outer : List PySem.Env} {Z : XK} {scope : Scope} {f c' : Addr} : L2N.Takes (lamQ X A outer s H Z scope f c') (fun cls d _ H => Z cls d H) := L2N.takes_of rfl rfl rfl rfl
/-- the lambda is called by the def that got it -/
theorem act {Ng : List Str} {x : Str} {sg : Scope} {ga f c' : Addr} {cdg pm ctv : Value} {params : Arguments} {body : Expr} {scope : Scope} {k : Nat} {a : Str} {pn : List (Addr × Obj)} {xe : Value → Shared → Prop} {W : WX} {Z : XK} {tb : TE} {p1 p2 : Pos}
    (I : Inv X pins σ H s) (L : LamS X.env.scope scope) (hf : s.heap.get? f = some (PySem.W.kla_obj "<lambda>" (X.env.qual ++ "<lambda>") params body scope (cloFrom X.env.cells scope.names []) pm c' ctv)) (hfn : H f = none) (hfr : f ∉ frs X.stack)
    (hbind : bindArgs (PySem.W.kla_fn "<lambda>" (X.env.qual ++ "<lambda>") params body scope (cloFrom X.env.cells scope.names []) pm (.ref c') ctv) ⟨[], []⟩ = pure [])
    (tk : L2N.Takes ((cxOf C8.CX0 X.prog X.w X.K X.mg X.base Ng x sg ga cdg X.A X.stack s H C8.E0).tr pn xe) W) (hW : ∀ cls d σ' H', Z cls d H' → W cls d σ' H') (hr : Room (k + 1) (X.A.deeper (envOfC x sg s.heap.objs.size ga cdg)))
    (hbody : ∀ (A : Around) (outer : List PySem.Env) (s : Shared) (H : Hp), Room k (A.deeper (lamEnv X scope s.heap.objs.size f c')) → PE (lamQ X A outer s H Z scope f c') body tb)
    (hN : Ng[0]? = some a) (hv : Vis sg a) (hd : (a == ("__debug__" : Str)) = false) (hcd : (a == ("__classdict__" : Str)) = false) :
    PE ((cxOf C8.CX0 X.prog X.w X.K X.mg X.base Ng x sg ga cdg X.A X.stack s H C8.E0).tr pn xe) (.Call (.Name a p1) [] [] p2)
      (fun σZ HZ Q => σZ[0]? = some (some (.ref f)) ∧ HZ c' = some (CodeO c' (X.env.qual ++ "<lambda>")) ∧ tb σ HZ Q) := by
  refine ⟨fun pinsY sY σY HY Q IY h => ?_⟩
  obtain ⟨slot, code, ht⟩ := h
  refine wpAny_Call_Name_kw (thn ((pe_var (pos := p1) (i := 0) hN hv hd hcd).run pinsY sY σY HY (fun v G => v = .ref f ∧ G = HY) IY ⟨.ref f, slot, rfl, rfl⟩) fun u s1 ⟨v, G, I1, ru, ev, eG⟩ => ?_)
  subst ev
  rw [eG] at I1
  obtain rfl : u = Value.ref f := ru
  have there : s1.heap.get? f = some (PySem.W.kla_obj "<lambda>" (X.env.qual ++ "<lambda>") params body scope (cloFrom X.env.cells scope.names []) pm c' ctv) := I1.base.keep f _ hf hfn hfr (fun z => nomatch (show f ∈ ([] : List Addr) from z))
  refine PySem.W.callWith_F0 ⟨_, _, _, _, there⟩ ?_
  have un : Un (frs X.stack) [] H HY s.heap s1.heap := I1.base
  obtain ⟨⟨oc, vs, t, hoc, hdc, hvc⟩, _, _⟩ := I1.hok c' _ code
  have run : codeAny (model X.prog X.w) (X.A.deeper (envOfC x sg s.heap.objs.size ga cdg)) (.call (.ref f) ⟨[], []⟩) (CR (L2N.CX X.prog X.w) (envOfC x sg s.heap.objs.size ga cdg :: X.stack) X.prog X.w HY s1 Q Z) s1 := by
    refine PySem.W.kla_callFunE hr.depth there rfl L.co L.gen rfl ⟨c', oc, vs, t, rfl, hoc, hdc, hvc⟩ ?_
    rw [hbind]
    refine wpAny_pure (wpAny_newFunctionEnv (fun y hy => (L.own y hy).2) (fun y hy => absurd hy (by simp)) (fun h1 ns sb => ⟨I1.nolimit.fresh _ sb, ?_⟩) L.kind)
    show codeAny _ _ (.expr body (lamEnv X scope s1.heap.objs.size f c')) _ _
    have kp : ∀ b o, s1.heap.get? b = some o → h1.get? b = some o := fun b o e => sb.extBut b o (Nat.ne_of_lt (Heap.lt_size e)) (Heap.get?_push_of_some _ e)
    have J := inv_xe (xe := (lamQ X (X.A.deeper (envOfC x sg s.heap.objs.size ga cdg)) (envOfC x sg s.heap.objs.size ga cdg :: X.stack) s1 HY Z scope f c').xe)
      (lam_start2 (E := Z) (f := f) (c' := c') (tk := s1.toks + ([] : List (Str × Value)).length) I L I1.env0 hr.hd un ns kp)
    refine PySem.W.kla_codeExpr (wpAny_mono ((hbody _ _ s1 HY (hr.deeper _)).run [] _ _ HY Q J ht) (fun v s' hq => ?_) fun e s' hq => hq)
    obtain ⟨w', G', J', rv, q⟩ := hq
    exact ⟨w', G', J'.os, J'.bare, J'.base, J'.hok, rv, q⟩
  have hx : Passes (L2N.CX X.prog X.w) ((cxOf C8.CX0 X.prog X.w X.K X.mg X.base Ng x sg ga cdg X.A X.stack s H C8.E0).tr pn xe) Z := L2N.passes_call tk hW
  refine wpAny_call (codeAny_mono run fun r s' hq => ?_)
  cases r with
  | error e => exact hx pinsY σY HY s1 e s' I1 hq
  | ok fl =>
    cases fl with
    | ret u => exact I1.after hq
    | next => exact False.elim hq
    | brk => exact False.elim hq
    | cont => exact False.elim hq
end
end QE

set_option Elab.async false
set_option linter.all false
set_option maxRecDepth 10000
set_option maxHeartbeats 1000000
/-! g(lambda: ..), g a def of the text that catches. -/
namespace QE
open PySem PySem.Spec PyProof.Rows L2 LamX
/-- the tables among the cells -/
def tabsOf : Sto → List (Addr × Str)
  | [] => []
  | .tbl p q :: S => (p, strOf q) :: tabsOf S
  | _ :: S => tabsOf S
theorem tabs_get : ∀ {S : Sto} {x : Addr × Str}, x ∈ tabsOf S → ∃ (n : Nat) (q : List Nat), S[n]? = some (.tbl x.1 q) ∧ x.2 = strOf q
  | .tbl p q :: S, x, h => by
    simp only [tabsOf, List.mem_cons] at h
    rcases h with h | h
    · subst h; exact ⟨0, q, rfl, rfl⟩
    · obtain ⟨n, q', a, b⟩ := tabs_get h
      exact ⟨n + 1, q', by simpa using a, b⟩
  | .lst xs :: S, x, h => by
    obtain ⟨n, q', a, b⟩ := tabs_get (S := S) h
    exact ⟨n + 1, q', by simpa using a, b⟩
  | .dic t xs :: S, x, h => by
    obtain ⟨n, q', a, b⟩ := tabs_get (S := S) h
    exact ⟨n + 1, q', by simpa using a, b⟩
theorem tabs_mem : ∀ {S : Sto} {n : Nat} {p : Nat} {q : List Nat}, S[n]? = some (.tbl p q) → (p, strOf q) ∈ tabsOf S
  | [], _, _, _, h => by simp at h
  | .tbl p' q' :: S, 0, p, q, h => by simp at h; obtain ⟨rfl, rfl⟩ := h; simp [tabsOf]
  | .lst _ :: S, 0, p, q, h => by simp at h
  | .dic _ _ :: S, 0, p, q, h => by simp at h
  | o :: S, n + 1, p, q, h => by
    have := tabs_mem (S := S) (n := n) (by simpa using h)
    cases o <;> simp [tabsOf, this]
section
variable {K : PySem.W.Frag} {hid ρ : List Addr} {H H1 : Hp} {S : Sto}
theorem sok_tabs (s : SOk K hid ρ H S) : Tabs (tabsOf S) H := fun x hx => by
  obtain ⟨n, q, hn, e⟩ := tabs_get hx
  obtain ⟨a, h1, ea, ps, h2, h3, h4⟩ := s.ob n _ hn
  rw [e]
  exact ⟨ps, h2, h3, fun pos cv hc => let ⟨c, e1, _, e3⟩ := h4 pos cv hc; ⟨c, e1, e3⟩⟩
/-- only tables have grown -/
theorem ext_tabs (n : ExtN H H1) : Ext ρ H ρ H1 :=
  ⟨⟨[], by simp, by simp⟩, fun b o e _ nt => n b o e nt, fun b o e nt => ⟨o, n b o e nt, nt⟩, fun b xs e => n b _ e fun _ z => (by cases z), fun b o u e => n b _ e fun _ z => (by cases z)⟩
theorem sok_grown (s : SOk K hid ρ H S) (n : ExtN H H1) (T : Tabs (tabsOf S) H1) : SOk K hid ρ H1 S := by
  refine ⟨s.len, s.nd, s.apart, fun a ha => let ⟨o, x, nt⟩ := s.hidd a ha; ⟨o, n a o x nt, nt⟩, fun m ob q => ?_⟩
  obtain ⟨a, h1, h2⟩ := s.ob m ob q
  refine ⟨a, h1, ?_⟩
  cases ob with
  | lst xs =>
    obtain ⟨vs, q1, q2⟩ := h2
    exact ⟨vs, n _ _ q1 fun _ z => (by cases z), RepL.mono (ext_tabs n) _ _ q2⟩
  | dic t xs =>
    cases t with
    | true =>
      obtain ⟨vs, q1, q2⟩ := h2
      exact ⟨vs, n _ _ q1 fun _ z => (by cases z), RepT.mono (ext_tabs n) _ _ q2⟩
    | false =>
      obtain ⟨vs, q1, q2⟩ := h2
      exact ⟨vs, n _ _ q1 fun _ z => (by cases z), RepK.mono (ext_tabs n) _ _ q2⟩
  | tbl p qn =>
    obtain ⟨ea, _⟩ := h2
    obtain ⟨ps, t1, t2, t3⟩ := T _ (tabs_mem q)
    refine ⟨ea, ps, t1, t2, fun pos cv hc => ?_⟩
    obtain ⟨c, e1, e2⟩ := t3 pos cv hc
    refine ⟨c, e1, fun z => ?_, e2⟩
    obtain ⟨i, hi, ei⟩ := List.getElem_of_mem z
    have hS : i < S.length := by rw [← s.len]; exact hi
    obtain ⟨c', g1, g2⟩ := s.ob i S[i] (List.getElem?_eq_getElem hS)
    rw [List.getElem?_eq_getElem hi, ei] at g1
    cases g1
    have hSi : S[i]? = some S[i] := List.getElem?_eq_getElem hS
    revert g2 hSi
    generalize S[i] = ob
    intro g2 hSi
    cases ob with
    | lst xs => obtain ⟨vs, w, _⟩ := g2; have := n _ _ w (fun _ z => (by cases z)); rw [e2] at this; cases this
    | dic t xs => cases t <;> (obtain ⟨vs, w, _⟩ := g2; have := n _ _ w (fun _ z => (by cases z)); rw [e2] at this; cases this)
    | tbl p' q' =>
      obtain ⟨e', _⟩ := g2
      obtain ⟨ps', w, _⟩ := T _ (tabs_mem hSi)
      rw [← e'] at w
      have w : H1 c = some (.tbl ps') := w
      rw [e2] at w
      cases w
end
/-- what is wished of an exception that a lambda lets out -/
def KX (K : PySem.W.Frag) (c : Ctx) (g : Nat) (Q : VK) : XK := fun cls d H' => ∃ k C v hid ρ S, c.cls k = some C ∧ cls = .ref C ∧ d = none ∧ c.gx g k = some v ∧ SOk K hid ρ H' S ∧ ∀ ρ' H'' u, Ext ρ H' ρ' H'' → SOk K hid ρ' H'' S → Rep K hid ρ' H'' v u → Q u H''
def KN (K : PySem.W.Frag) (c : Ctx) (g : Nat) (Q : VK) : VK := fun _ H' => ∃ v hid ρ S, c.gok g = some v ∧ SOk K hid ρ H' S ∧ ∀ ρ' H'' u, Ext ρ H' ρ' H'' → SOk K hid ρ' H'' S → Rep K hid ρ' H'' v u → Q u H''
/-- the def that calls what it got, and catches -/
def Gives (X : Cx) (c : Ctx) (g : Nat) (Ng : List Str) (x : Str) (sg : Scope) (ga : Addr) (cdg : Value) (bg : List Stmt) (a : Str) : Prop :=
  ∀ (s : Shared) (H : Hp) (f c' : Addr) (q : Str) (Q : VK) (tl : XK → Hp → VK → Prop),
    (∀ (W : WX) (pn : List (Addr × Obj)) (xe : Value → Shared → Prop) (Z : XK) (p1 p2 : Pos), L2N.Takes ((cxOf C8.CX0 X.prog X.w X.K X.mg X.base Ng x sg ga cdg X.A X.stack s H C8.E0).tr pn xe) W → (∀ cls d σ' H', Z cls d H' → W cls d σ' H') →
      PE ((cxOf C8.CX0 X.prog X.w X.K X.mg X.base Ng x sg ga cdg X.A X.stack s H C8.E0).tr pn xe) (.Call (.Name a p1) [] [] p2) (fun σZ HZ Q => σZ[0]? = some (some (.ref f)) ∧ HZ c' = some (CodeO c' q) ∧ tl Z HZ Q)) →
    H c' = some (CodeO c' q) → tl (KX X.K c g Q) H (KN X.K c g Q) →
    ∃ t, PSs (cxOf C8.CX0 X.prog X.w X.K X.mg X.base Ng x sg ga cdg X.A X.stack s H C8.E0).nox bg t ∧ t { nx := fun _ H' => Q .non H', rt := Q } (L2.start Ng [.ref f]) H
section
variable {X : Cx} {c : Ctx} {g j P : Nat} {q : List Nat} {eb : E} {x a : Str} {ga cc : Addr} {k : Nat} {pg : Arguments} {bg : List Stmt} {sg : Scope} {dV kV doc pm cdv ct oc : Value} {an od : Option Addr} {osl : Array (Option Value)} {Ng : List Str} {params : Arguments} {body : Expr} {scope : Scope} {p lpos pos : Pos}
theorem s_guard (hg : Gl X x) (hm : X.mg x = some (.ref ga)) (hk : PySem.W.keepIn X.K (.ref ga) = true) (lk : X.K.lookup ga = some ⟨oc, od, .func (PySem.W.fnOf x x pg bg sg dV kV doc pm an cdv ct), osl⟩) (hcg : PySem.W.codeIn X.K cdv x = true)
    (hb : L2.Binds X.K (PySem.W.fnOf x x pg bg sg dV kV doc pm an cdv ct) [a] []) (Sg : FnScope Ng [a] sg) (hNg : Ng[0]? = some a) (hva : Vis sg a) (hG : Gives X c g Ng x sg ga cdv bg a)
    (h1 : ∀ v, c.gok g = some v → v.st = true) (h2 : ∀ k v, c.gx g k = some v → v.st = true)
    (TB : TabB X.base X.mg cc P) (hcode : X.env.code = .ref cc) (hq : X.env.qual ++ "<lambda>" = strOf q) (hr : Room (k + 2) X.A) (L : LamS X.env.scope scope) (hdef : defaultsOf params X.env = ([], []))
    (hbind : ∀ (q : Str) (cl : List (Str × Addr)) (pm cv ctv : Value), bindArgs (PySem.W.kla_fn "<lambda>" q params body scope cl pm cv ctv) ⟨[], []⟩ = pure [])
    (hbody : ∀ (A : Around) (outer : List PySem.Env) (s : Shared) (H : Hp) (Z : XK) (f c' : Addr), Room k (A.deeper (lamEnv X scope s.heap.objs.size f c')) → PE (lamQ X A outer s H Z scope f c') body (tX X.K c eb Z))
    (hdb : (x == ("__debug__" : Str)) = false) (hd : (a == ("__debug__" : Str)) = false) (hcd : (a == ("__classdict__" : Str)) = false) :
    PE X (.Call (.Name x p) [.Lambda params body scope lpos] [] pos) (tE X.K c (.guard g j P q eb)) := by
  refine ⟨fun pins s σ H Q I h => ?_⟩
  obtain ⟨hid, ρ, env, S, hE, hs, h⟩ := h
  simp only [evalE] at h
  cases hT : tblAt S j P q with
  | false => rw [hT, if_neg Bool.false_ne_true] at h; exact h.elim
  | true =>
  rw [hT, if_pos rfl] at h
  cases hj : S[j]? with
  | none => simp [tblAt, hj] at hT
  | some ob =>
  cases ob with
  | lst xs => simp [tblAt, hj] at hT
  | dic t xs => simp [tblAt, hj] at hT
  | tbl p' q' =>
  simp only [tblAt, hj] at hT
  simp only [Bool.and_eq_true, decide_eq_true_eq] at hT
  obtain ⟨rfl, rfl⟩ := hT
  have mT : (p', X.env.qual ++ "<lambda>") ∈ tabsOf S := by rw [hq]; exact tabs_mem hj
  have uT : ∀ y ∈ tabsOf S, y.1 = p' → y.2 = X.env.qual ++ "<lambda>" := fun y hy e => by
    obtain ⟨n, qn, hn, e2⟩ := tabs_get hy
    obtain ⟨b1, g1, ea1, _⟩ := hs.ob n _ hn
    obtain ⟨b2, g2, ea2, _⟩ := hs.ob j _ hj
    have hnj : n = j := by
      obtain ⟨l1, w1⟩ := List.getElem?_eq_some_iff.mp g1
      obtain ⟨l2, w2⟩ := List.getElem?_eq_some_iff.mp g2
      exact (List.getElem_inj hs.nd).mp (by rw [w1, w2, ea1, ea2, e])
    subst hnj
    rw [hj] at hn
    cases hn
    rw [e2, hq]
  refine wpAny_Call_Name_kw (ld_glob I hg hm ?_ hdb)
  refine PySem.W.callWith_K (h₀ := X.base) I.ok.mod.kin hk ?_ (by rfl) (by rfl)
  show wpAny _ _ (spliced ((false, eval (.Lambda params body scope lpos) X.env) :: backTo pos (starEach [] X.env))) _ _ s
  refine Calls.spliced_cons (lam_make2 I TB hcode mT uT (sok_tabs hs) hdef (L.has I.ok) fun f c' pm' ctv H1 s' I1 eN T1 hf hfn hfr hco => ?_)
  refine Calls.spliced_nil ⟨I1.kIn, ?_⟩
  have e1 : Ext ρ H ρ H1 := ext_tabs eN
  have s1 := sok_grown hs eN T1
  have wish : tX X.K c eb (KX X.K c g Q) σ H1 (KN X.K c g Q) := by
    refine ⟨hid, ρ, env, S, hE.mono e1, s1, ?_⟩
    revert h
    generalize evalX c eb env S = r
    intro h
    cases r with
    | bad => exact h.elim
    | ok v S2 =>
      obtain ⟨v, hv, h3⟩ := h.of
      intro ρ2 H2 e2 s2 _ _ _
      exact ⟨v, hid, ρ2, S2, hv, s2, fun ρ3 H3 u e3 s3 ru => h3 ρ3 H3 ((e1.trans e2).trans e3) s3 u ru (.of_st (h1 v hv))⟩
    | exc kx ps S2 =>
      obtain ⟨v, hv, h3⟩ := h.of
      intro ρ2 H2 e2 s2 C hC
      exact ⟨kx, C, v, hid, ρ2, S2, hC, rfl, rfl, hv, s2, fun ρ3 H3 u e3 s3 ru => h3 ρ3 H3 ((e1.trans e2).trans e3) s3 u ru (.of_st (h2 kx v hv))⟩
  have rc : codeAny (model X.prog X.w) X.A (.call (.ref ga) ⟨[.ref f], []⟩) (CR C8.CX0 X.stack X.prog X.w H1 s' Q C8.E0) s' := by
    refine run_ofS (N := Ng) (ps := [a]) (us := [.ref f]) (vs := [.ref f]) lk hcg Sg hr I1.env0 (hb s' [.ref f] I1.kIn rfl) (.cons rfl .nil) rfl fun hr' => ?_
    obtain ⟨t', ht', hq'⟩ := hG s' H1 f c' _ Q (fun Z H' Q' => tX X.K c eb Z σ H' Q') (fun W pn xe Z p1 p2 tk hW => act I1 L hf hfn hfr (hbind _ _ _ _ _) tk hW hr' (fun A outer s H hr2 => hbody A outer s H Z f c' hr2) hNg hva hd hcd) hco wish
    exact ⟨t', ht'.nox, hq'⟩
  refine wpAny_call (codeAny_mono rc fun r s2 hq => ?_)
  cases r with
  | error e => exact (show False from hq).elim
  | ok fl =>
    cases fl with
    | ret u => exact I1.after hq
    | next => exact False.elim hq
    | brk => exact False.elim hq
    | cont => exact False.elim hq
end
end QE

set_option Elab.async false
set_option linter.all false
set_option maxRecDepth 10000
set_option maxHeartbeats 1000000
/-! try: a() / except C as n: suite / rest. -/
namespace QE
open PySem PySem.Spec PyProof.Rows L2 LamX L2H
/-- the names of a def that catches, none of them set -/
def bare (n : Nat) : Env := List.replicate n none
theorem bare_rep {K : PySem.W.Frag} {hid ρ : List Addr} {H : Hp} {n : Nat} {σ : L2.St} (h : σ.length = n) : ERep K hid ρ H (bare n) σ := by
  refine ⟨by simp [bare, h], fun i x q => ?_⟩
  have := List.mem_of_getElem? q
  simp [bare] at this
def suiteCtx (c : Ctx) (k a : Nat) : Ctx := { c with call := fun _ _ _ => .bad, exn := some (k, a) }
def restCtx (c : Ctx) : Ctx := { c with call := fun _ _ _ => .bad, exn := none }
/-- what a def that catches hands back, by the evaluator: st the suite, sr the rest, i the caught one's name, n so many names -/
structure Catch (c : Ctx) (g n i : Nat) (st sr : List Stm) : Prop where
  lt : i < n
  suite : ∀ k v, c.gx g k = some v → ∀ (a : Nat) (S : Sto), ∃ env', execSs (suiteCtx c k a) st ((bare n).set i (some (.exn k a))) S = .ok (.rt v, env') S
  rest : ∀ v, c.gok g = some v → ∀ S : Sto, ∃ env', execSs (restCtx c) sr (bare n) S = .ok (.rt v, env') S
theorem noTakes {X : Cx} : L2N.Takes X (fun _ _ _ _ => False) := fun _ _ x => by
  obtain ⟨_, _, _, _, _, _, _, _, _, _, _, _, _, _, _, _, z⟩ := x
  exact z.elim
theorem gives_try {X : Cx} {c : Ctx} {g n i : Nat} {Ng : List Str} {x a e nm : Str} {sg : Scope} {ga : Addr} {cdg CS : Value} {b₀ : Stmt} {suite rest : List Stmt} {st sr : List Stm} {p1 p2 p3 p4 p7 p8 : Pos} (C : Catch c g n i st sr) (hn : Ng.length = n) (nd : Ng.Nodup) (hi : Ng[i]? = some nm) (hl : sg.names.lookup nm = some .local)
    (h0 : 0 < n) (hge : sg.names.lookup e = some .globalImplicit) (hde : (e == ("__debug__" : Str)) = false) (hce : X.mg e = some CS ∨ (X.mg e = none ∧ bootBuiltins e = some CS ∧ e ≠ "__name__"))
    (hx : ∀ k C v, c.cls k = some C → c.gx g k = some v → PySem.W.exmOne X.K (.ref C) CS = some true)
    (hs : ∀ (s : Shared) (H : Hp) (k D a' : Nat) (oe : Obj) (pn : List (Addr × Obj)), c.cls k = some D → L2N.Zn (.ref D) none oe → (∃ vs, oe.data = .fields vs) →
      PSs ((cxOf C8.CX0 X.prog X.w X.K X.mg X.base Ng x sg ga cdg X.A X.stack s H C8.E0).nox.suite a' ((a', oe) :: pn)) (b₀ :: suite) (tSs X.K (suiteCtx c k a') (fun _ _ _ _ => False) st))
    (hr : ∀ (s : Shared) (H : Hp), PSs (cxOf C8.CX0 X.prog X.w X.K X.mg X.base Ng x sg ga cdg X.A X.stack s H C8.E0).nox rest (tSs X.K (restCtx c) (fun _ _ _ _ => False) sr)) :
    Gives X c g Ng x sg ga cdg (.Try [.Expr (.Call (.Name a p1) [] [] p2) p3] [.ExceptHandler (some (.Name e p4)) (some nm) (b₀ :: suite) p7] [] [] p8 :: rest) a := by
  intro s H f c' q Q tl hact hco hw
  generalize hY : (cxOf C8.CX0 X.prog X.w X.K X.mg X.base Ng x sg ga cdg X.A X.stack s H C8.E0).nox = Y
  have hYN : Y.N = Ng := by rw [← hY]; rfl
  have ts_ok : ∀ (a' : Addr) (oe : Obj) (cls : Value) (d : Option Addr) (pn : List (Addr × Obj)), L2N.Zn cls d oe → (∃ vs, oe.data = .fields vs) → PSs (Y.suite a' ((a', oe) :: pn)) (b₀ :: suite)
      ((fun a' cls d => fun D σ G => (∃ σ0 : L2.St, σ = σ0.set i (some (.ref a'))) ∧ ∃ k D' v hid ρ S, c.cls k = some D' ∧ cls = .ref D' ∧ d = none ∧ c.gx g k = some v ∧ SOk X.K hid ρ G S ∧ ∀ ρ' G' u, Ext ρ G ρ' G' → SOk X.K hid ρ' G' S → Rep X.K hid ρ' G' v u → D.rt u G' : Addr → Value → Option Addr → TS) a' cls d) := by
    intro a' oe cls d pn hz hd
    refine ⟨fun pins s' σ G D I h => ?_⟩
    obtain ⟨⟨σ0, eσ⟩, k, D', v, hid, ρ, S, hD', ec, ed, hv, so, fin⟩ := h
    subst ec ed
    have hlen : σ.length = n := by
      have := I.len
      rw [this]
      show Y.N.length = n
      rw [hYN]; exact hn
    have hlen0 : σ0.length = n := by rw [eσ] at hlen; simpa using hlen
    obtain ⟨env', he⟩ := C.suite k v hv a' S
    have hss := hs s H k D' a' oe pn hD' hz hd
    rw [hY] at hss
    refine hss.run pins s' σ G D I ⟨hid, ρ, (bare n).set i (some (.exn k a')), S, ?_, so, ?_⟩
    · rw [eσ]
      exact (bare_rep hlen0).set i rfl (by simp only [Rep])
    · rw [he]
      exact fun ρ' G' e1 s1 u ru _ => fin ρ' G' u e1 s1 ru
  have tb_ok : ∀ (W : WX) (pn : List (Addr × Obj)) (xe : Value → Shared → Prop), L2N.Takes (Y.tr pn xe) W → PassesOwn (model Y.prog Y.w) Y.A Y.env xe → PSs (Y.tr pn xe) [.Expr (.Call (.Name a p1) [] [] p2) p3]
      ((fun W => fun D σ G => ∃ Zc : XK, (∀ cls d σ' H', Zc cls d H' → W cls d σ' H') ∧ σ[0]? = some (some (.ref f)) ∧ G c' = some (CodeO c' q) ∧ tl Zc G (fun _ H' => D.nx σ H') : WX → TS) W) := by
    intro W pn xe tk _
    refine ⟨fun pins s' σ G D I h => ?_⟩
    obtain ⟨Zc, hW, h1, h2, h3⟩ := h
    subst hY
    exact (pss_one (ps_expr (pos := p3) (hact W pn xe Zc p1 p2 tk hW) (no_swaps rfl _ _ _))).run pins s' σ G D I ⟨h1, h2, h3⟩
  have rest_ok : PSs Y rest ((fun D σ G => ∃ v hid ρ S, c.gok g = some v ∧ SOk X.K hid ρ G S ∧ ∀ ρ' G' u, Ext ρ G ρ' G' → SOk X.K hid ρ' G' S → Rep X.K hid ρ' G' v u → D.rt u G' : TS)) := by
    refine ⟨fun pins s' σ G D I h => ?_⟩
    obtain ⟨v, hid, ρ, S, hv, so, fin⟩ := h
    have hlen : σ.length = n := by
      rw [I.len, hYN]; exact hn
    obtain ⟨env', he⟩ := C.rest v hv S
    have hrr := hr s H
    rw [hY] at hrr
    refine hrr.run pins s' σ G D I ⟨hid, ρ, bare n, S, bare_rep hlen, so, ?_⟩
    rw [he]
    exact fun ρ' G' e1 s1 u ru _ => fin ρ' G' u e1 s1 ru
  have hnames : Names Y e CS := by
    subst hY
    exact ⟨hge, hde, hce⟩
  refine ⟨_, pss_cons (L2N.ps_try_as (X := Y) (by subst hY; rfl) (by subst hY; rfl) (by rw [hYN]; exact nd) (by rw [hYN]; exact hi) (by subst hY; exact hl) hnames noTakes tb_ok ts_ok) rest_ok, ?_⟩
  refine ⟨KX X.K c g Q, fun cls d σ' H' hk => ?_, ?_, hco, hw⟩
  · obtain ⟨k, D', v, hid, ρ, S, hD', ec, ed, hv, so, fin⟩ := hk
    subst ec
    refine ⟨true, ?_, fun _ a' _ => ⟨⟨σ', rfl⟩, k, D', v, hid, ρ, S, hD', rfl, ed, hv, so, fin⟩, fun z => Bool.noConfusion z⟩
    have := hx k D' v hD' hv
    subst hY
    exact this
  · unfold L2.start
    rfl
end QE

set_option Elab.async false
set_option linter.all false
set_option maxRecDepth 10000
set_option maxHeartbeats 1000000
/-! d.get(k, v), {k: v}, tuple(range(a, b)); comprehensions within except suites. -/
namespace QE
open PySem PySem.Spec PyProof.Rows L2 L2H
section
variable {X : Cx} {c : Ctx} {W : L2.WX} {pos apos p p2 pos2 : Pos} {x y nm : Str} {xa xb xo : Expr} {ea eb eo : E}
theorem few_two {cpos : Pos} {e f : Expr} {env : PySem.Env} (hp : plainE e = true) (hq : plainE f = true) : ((backTo cpos (starEach [e, f] env)).all (fun x => !x.1) && (backToKw cpos (keywordEach [] env)).all (fun x => x.1.isSome)
      && decide ([e, f].length + ([] : List Keyword).length + (if ([] : List Keyword).isEmpty then 0 else 1) < 30)) = true := by
  rw [star_cons hp, star_cons hq]
  rfl
theorem is_dic {K : PySem.W.Frag} {hid ρ : List Addr} {H : Hp} {S : Sto} {x : Val} {v : V} {t : Bool} {kvs : List (Val × Val)} (so : SOk K hid ρ H S) (e : asDic S x = some (t, kvs)) (r : Rep K hid ρ H x v) : ∃ a, v = .ref a ∧ IsD H a := by
  obtain ⟨a, ea, h⟩ := asDic_rep so e r
  rcases h with ⟨rfl, ws, h1, h2⟩ | ⟨rfl, ws, h1, h2⟩
  · exact ⟨a, ea, .inr ⟨ws, .inl h1⟩⟩
  · exact ⟨a, ea, .inl ⟨ws, .inl h1⟩⟩
theorem s_get (hu : X.A.units + 65 < cLine) (en : nm = PySem.Str.ofString "get") (ho : PE X xo (tE X.K c eo)) (ha : PE X xa (tE X.K c ea)) (hb : PE X xb (tE X.K c eb)) (hp : plainE xa = true) (hq : plainE xb = true) (hpo : plainO xo = true) (hl : (apos.endLine == pos.line) = true) :
    PE X (.Call (.Attribute xo nm apos) [xa, xb] [] pos) (tE X.K c (.get eo ea eb)) := by
  subst en
  refine PE.imp (pe_dget2 (by omega) ho ha hb ⟨plain_base hpo _ _, few_two hp hq, hl, by rw [star_cons hp, star_cons hq]; rfl⟩) fun σ H Q h => ?_
  obtain ⟨hid, ρ, env, S, hE, hs, h⟩ := h
  simp only [evalE] at h
  refine tE.of hE hs h fun x S1 ρ1 H1 v e1 s1 r1 f1 h1 => ?_
  obtain ⟨⟨t, kvs⟩, ed, h2⟩ := h1.some
  obtain ⟨a, ea', isd⟩ := is_dic s1 ed r1
  refine ⟨a, ea', isd, ?_⟩
  refine tE.of (hE.mono e1) s1 h2 fun y S2 ρ2 H2 w e2 s2 r2 f2 h3 => ?_
  refine tE.of ((hE.mono e1).mono e2) s2 h3 fun z S3 ρ3 H3 u e3 s3 r3 f3 h4 => ?_
  obtain ⟨r, hr, h5⟩ := h4.of
  unfold getV at hr
  split at hr
  · rename_i t' kvs' ed'
    split at hr
    · rename_i hk
      cases hr
      obtain ⟨a', o, ea2, g, hso, hg⟩ := dget_rep s3 ed' (Rep.mono e3 _ _ (Rep.mono e2 _ _ r1)) hk (Rep.mono e3 _ _ r2)
      rw [ea'] at ea2
      cases ea2
      refine ⟨o, g, ?_⟩
      cases hd : dGet y kvs' with
      | none =>
        rw [hd] at hso h5
        cases o with
        | some _ => cases hso
        | none => exact h5.pure s3 _ r3.settle (.of_st (st_settle z))
      | some q =>
        rw [hd] at h5
        obtain ⟨u', eo, st, ru⟩ := hg q hd
        subst eo
        exact h5.pure s3 _ ru (.of_st st)
    · cases hr
  · cases hr
theorem rep_range {K : PySem.W.Frag} {hid ρ : List Addr} {H : Hp} : ∀ (n : Nat) (a : Int), RepL K hid ρ H (rangeV a n) ((List.range n).map fun i => V.int (a + (i : Nat)))
  | 0, a => .nil
  | n + 1, a => by
    rw [List.range_succ_eq_map, List.map_cons, List.map_map]
    refine .cons ⟨rfl, ?_⟩ ?_
    · simp only [Rep]
      simp
    · have h := rep_range (K := K) (hid := hid) (ρ := ρ) (H := H) n (a + 1)
      have e : ((fun i : Nat => V.int (a + (i : Nat))) ∘ Nat.succ) = fun i : Nat => V.int (a + 1 + (i : Nat)) := by
        funext i
        simp only [Function.comp]
        congr 1
        omega
      rw [e]
      exact h
theorem s_trng (hc : X.calm = true) (ex : x = PySem.Str.ofString "tuple") (ey : y = PySem.Str.ofString "range") (hg : Gl X x) (hm : X.mg x = none) (hg2 : Gl X y) (hm2 : X.mg y = none) (ha : PE X xa (tE X.K c ea)) (hb : PE X xb (tE X.K c eb)) (hp : plainE xa = true) (hq : plainE xb = true) :
    PE X (.Call (.Name x p) [.Call (.Name y p2) [xa, xb] [] pos2] [] pos) (tE X.K c (.trng ea eb)) := by
  subst ex ey
  refine PE.imp (pe_tupRg hc hg hm (prg_2 hg2 hm2 ha hb (star_cons hp _ _) (star_cons hq _ _) (star_none _ _ _ (by simp [hq])))) fun σ H Q h => ?_
  obtain ⟨hid, ρ, env, S, hE, hs, h⟩ := h
  simp only [evalE] at h
  refine tE.of hE hs h fun x S1 ρ1 H1 v e1 s1 r1 f1 h1 => ?_
  obtain ⟨i, ei, h2⟩ := asInt_out h1
  subst ei
  refine tE.of (hE.mono e1) s1 h2 fun y S2 ρ2 H2 w e2 s2 r2 f2 h3 => ?_
  obtain ⟨j, ej, h4⟩ := asInt_out h3
  subst ej
  refine ⟨i, j, r1.int_, r2.int_, ?_⟩
  unfold rangeOf at h4
  split at h4
  · rename_i hr
    simp only [R.bind, rangeV_len] at h4
    split at h4
    · rename_i hz
      refine ⟨⟨hr.1, hr.2.1, hr.2.2.1, hr.2.2.2, by unfold lim at hz; omega⟩, fun q hq => ?_⟩
      exact h4 ρ2 _ (Ext.new hq) (s2.new hq) _ (rep_newT hq (rep_range _ _)) trivial
    · exact h4.elim
  · exact h4.elim
theorem s_d1 (ha : PE X xa (tE X.K c ea)) (hb : PE X xb (tE X.K c eb)) : PE X (.Dict [some xa] [xb] pos) (tE X.K c (.d1 false ea eb)) := by
  refine PE.imp (pe_disp (pps_cons ha hb pps_nil) rfl rfl (by simp) (by simp)) fun σ H Q h => ?_
  obtain ⟨hid, ρ, env, S, hE, hs, h⟩ := h
  simp only [evalE] at h
  intro D hD
  have eD : Ext ρ H ρ (upd H D (.dK [])) := Ext.new hD
  have sD : SOk X.K (D :: hid) ρ (upd H D (.dK [])) S := hs.hide hD
  show tE X.K c ea σ _ _
  obtain ⟨kx, S1, q1, hk1⟩ := h.bind
  refine ⟨D :: hid, ρ, env, S, hE.hide hD, sD, ?_⟩
  rw [q1]
  intro ρ1 H1 e1 s1 kv rk fk
  obtain ⟨vx, S2, q2, hk2⟩ := (hk1 ρ H (Ext.refl _ _)).bind
  refine ⟨D :: hid, ρ1, env, S1, (hE.hide hD).mono e1, s1, ?_⟩
  rw [q2]
  intro ρ2 H2 e2 s2 vv rv fv
  have hD2 : H2 D = some (.dK []) := e2.keep _ _ (e1.keep _ _ upd_same (fun z => sD.apart D z (by simp))) (fun z => s1.apart D z (by simp))
  refine ⟨hD2, ?_⟩
  have h3 := hk2 ρ H (Ext.refl _ _)
  split at h3
  · rename_i hkey
    have hkey : kx.flatKey = true := hkey
    have ek : kv = kV (keyOf kx) := by
      cases kx <;> first | (cases hkey; done) | skip
      · exact rk.int_
      · exact rk.str_
    refine ⟨[(keyOf kx, vv)], by rw [ek]; rfl, by simp, ?_⟩
    have fin : Ext ρ H ρ2 (upd H2 D (.dK (mergeK [] [(keyOf kx, vv)]))) := ((eD.trans e1).trans e2).over hD
    have s3 : SOk X.K (D :: hid) ρ2 (upd H2 D (.dK (mergeK [] [(keyOf kx, vv)]))) S2 := s2.over hD2 (fun xs z => by cases z)
    have dn : D ∉ ρ2 := fun z => s2.apart D z (by simp)
    have dh : D ∉ hid := hs.new2 hD
    have rk' : RepK X.K (D :: hid) ρ2 (upd H2 D (.dK (mergeK [] [(keyOf kx, vv)]))) [(kx, vx.settle)] (mergeK [] [(keyOf kx, vv)]) := by
      show RepK _ _ _ _ _ [(keyOf kx, vv)]
      simp only [RepK]
      exact ⟨vv, [], rfl, hkey, ⟨st_settle vx, (Rep.to (to_over hD2 (fun xs z => by cases z)) _ _ rv).settle⟩, rfl⟩
    refine h3 ρ2 _ fin s3.seen (.ref D) ?_ ⟨D, rfl, .of hD, s3.take dh ⟨_, upd_same, rk'⟩⟩
    simp only [Rep]
    exact ⟨D, _, rfl, upd_same, dn, dh, RepK.seen _ _ rk'⟩
  · exact h3.elim
/-! ### within an except suite -/
theorem g_tupH {es : List Expr} {ts : List T} {k : Nat} (hc : HotC X) (h : PGs X es (tGs X.K ts)) (hp : es.all plainG = true) (hl : es.length = ts.length) : PG X (.Tuple es k pos) (tG X.K (.tup ts)) := by
  obtain ⟨h1, h2⟩ := each_len X.env es hp
  refine PG.imp (QH.pg_tupQ (n := es.length) hc h h1 h2) fun v σ H Q hh => ?_
  obtain ⟨hid, ρ, env, S, x, env', hE, hs, r, b, q⟩ := hh
  cases x with
  | tup xs =>
    simp only [Rep] at r
    obtain ⟨a, vs, ev, ha, rl⟩ := r
    simp only [bindT] at b
    refine ⟨a, vs, ev, SqT.of ha, ?_, hid, ρ, env, S, xs, env', hE, hs, rl, b, q⟩
    rw [rl.length, hl]
    exact bindTs_len b
  | _ => simp [bindT] at b
theorem i_zipH {tpos : Pos} {elts : List Expr} {kk : Nat} (ex : x = PySem.Str.ofString "zip") (hg : Gl X x) (hm : X.mg x = none) (ha : PE X xa (tE X.K c ea)) (hp : plainE xa = true) (hb : PE X xb (tE X.K c eb)) (hq : plainE xb = true) :
    PIH X (.Tuple elts kk tpos) (.Call (.Name x p) [xa, xb] [] pos) (tI X.K c (.zipL ea eb)) := by
  subst ex
  refine ⟨fun pins s σ H R I h => (QH.pi_zipQ hg hm (pa_cons ha (pa_cons hb pa_nil (star_cons hq _ _)) (star_cons hp _ _)) (star_cons hp _ _) (star_none _ _ _ (by simp [hq]))).run pins s σ H R I ?_⟩
  obtain ⟨hid, ρ, env, S, hE, hs, h⟩ := h
  simp only [evalSrc] at h
  refine tE.of hE hs h fun v S1 ρ1 H1 u e1 s1 r1 f1 h1 => ?_
  refine tE.of (hE.mono e1) s1 h1 fun w S2 ρ2 H2 u2 e2 s2 r2 f2 h2 => ?_
  obtain ⟨pq, hw, h3⟩ := h2.some
  unfold listsOf at hw
  split at hw
  · rename_i f1 ys f2 zs
    cases hw
    have r1 := Rep.mono e2 _ _ r1
    simp only [Rep] at r1 r2
    obtain ⟨a, vs, q1, q2, q3, q4, q5⟩ := r1
    obtain ⟨b, ws, k1, k2, k3, k4, k5⟩ := r2
    subst q1 k1
    exact ⟨a, b, vs, ws, rfl, .inl q2.rd, .inl k2.rd, h3.pure s2 _ (.zipL q2.rd q3 q5 k2.rd k3 k5)⟩
  · cases hw
theorem s_compH {xe tg iter : Expr} {xifs : List Expr} {scope : Scope} {own : List (Str × Nat)} {g : T} {src : Src} {ifs : List E} {elt : E} (hc : HotC X) (hN : X.N.Nodup) (hi : PIH X tg iter (tI X.K c src)) (ok : BlkOk X.N X.env.scope scope own)
    (hg : ∀ (z : Shared) (G : Hp) (C : Addr) (cl : List (Str × Addr)) (fp : List Addr), PG (QH.blkQ X z G scope (compEnvC scope cl C X.env) fp) tg (tG X.K g))
    (ht : ∀ (z : Shared) (G : Hp) (C : Addr) (cl : List (Str × Addr)) (fp : List Addr), PTs (QH.blkQ X z G scope (compEnvC scope cl C X.env) fp) xifs (tBs (evalAnd c) X.K ifs))
    (he : ∀ (z : Shared) (G : Hp) (C : Addr) (cl : List (Str × Addr)) (fp : List Addr), PE (QH.blkQ X z G scope (compEnvC scope cl C X.env) fp) xe (tE X.K c elt)) (hf : noSetE iter = true) (hown : ∀ i ∈ tgN g, i ∈ own.map (·.2)) :
    PE X (.ListComp xe [⟨tg, iter, xifs, 0⟩] scope pos) (tE X.K c (.comp (own.map (·.2)) g src ifs elt)) :=
  PE.imp (QH.pe_lcQ hc hN hi ok hg ht he (no_fold hf X.env)) fun σ H Q h => lc_read hown h
theorem s_setCompH {i : Nat} {y : Str} {py spos : Pos} {xe tg iter : Expr} {xifs : List Expr} {scope : Scope} {own : List (Str × Nat)} {g : T} {src : Src} {ifs : List E} {elt e' : E} (rd : ∀ σ H Q, tE X.K c e' σ H Q → tE X.K c (.comp (own.map (·.2)) g src ifs elt) σ H Q)
    (hc : HotC X) (hN : X.N.Nodup) (hy : X.N[i]? = some y) (hyl : X.env.scope.names.lookup y = some .local)
    (hsw : swapsWith (.ListComp xe [⟨tg, iter, xifs, 0⟩] scope pos) (some (.Name y py)) spos.line X.env = pure true) (hi : PIH X tg iter (tI X.K c src)) (ok : BlkOk X.N X.env.scope scope own)
    (hg : ∀ (z : Shared) (G : Hp) (C : Addr) (cl : List (Str × Addr)) (fp : List Addr), PG (QH.blkQ X z G scope (compEnvC scope cl C X.env) fp) tg (tG X.K g))
    (ht : ∀ (z : Shared) (G : Hp) (C : Addr) (cl : List (Str × Addr)) (fp : List Addr), PTs (QH.blkQ X z G scope (compEnvC scope cl C X.env) fp) xifs (tBs (evalAnd c) X.K ifs))
    (he : ∀ (z : Shared) (G : Hp) (C : Addr) (cl : List (Str × Addr)) (fp : List Addr), PE (QH.blkQ X z G scope (compEnvC scope cl C X.env) fp) xe (tE X.K c elt)) (hf : noSetE iter = true) (hown : ∀ i ∈ tgN g, i ∈ own.map (·.2)) :
    PS X (.Assign [.Name y py] (.ListComp xe [⟨tg, iter, xifs, 0⟩] scope pos) spos) (tS X.K c W (.asg (.name i) e')) :=
  PS.imp (QH.ps_setLcQ hc hN hy hyl hsw hi ok hg ht he (no_fold hf X.env)) fun D σ H h => lc_read hown (rd _ _ _ (set_read h))
end
end QE

set_option Elab.async false
set_option linter.all false
set_option maxRecDepth 10000
set_option maxHeartbeats 1000000
/-! A def: what its body does, it promises. -/
namespace QE
open PySem PySem.Spec PyProof.Rows L2
section
variable {K : PySem.W.Frag} {hid ρ ρ' : List Addr} {H : Hp}
mutual
theorem Rep.isLow : ∀ (x : Val) (v : V), Rep K hid ρ H x v → x.low ρ.length = true
  | .non, v, h => rfl
  | .bl b, v, h => rfl
  | .int i, v, h => rfl
  | .str s, v, h => rfl
  | .tup xs, v, h => by
    simp only [Rep] at h
    obtain ⟨a, vs, h1, h2, h3⟩ := h
    simp only [Val.low]
    exact RepL.isLow xs vs h3
  | .lst f xs, v, h => by
    simp only [Rep] at h
    obtain ⟨a, vs, h1, h2, h3, h4, h5⟩ := h
    simp only [Val.low]
    exact RepL.isLow xs vs h5
  | .dic f true kvs, v, h => by
    simp only [Rep] at h
    obtain ⟨a, vs, h1, h2, h3, h4, h5⟩ := h
    simp only [Val.low]
    exact RepT.isLow kvs vs h5
  | .dic f false kvs, v, h => by
    simp only [Rep] at h
    obtain ⟨a, vs, h1, h2, h3, h4, h5⟩ := h
    simp only [Val.low]
    exact RepK.isLow kvs vs h5
  | .ref n, v, h => by
    simp only [Rep] at h
    obtain ⟨a, h1, h2⟩ := h
    simp only [Val.low, decide_eq_true_eq]
    exact (List.getElem?_eq_some_iff.mp h1).1
  | .kls ns, v, h => rfl
  | .fn _ _, v, h => rfl
  | .exn _ _, v, h => rfl
theorem RepL.isLow : ∀ (xs : List Val) (vs : List V), RepL K hid ρ H xs vs → Val.lowL ρ.length xs = true
  | [], vs, h => rfl
  | x :: xs, vs, h => by
    simp only [RepL] at h
    obtain ⟨v, r, h1, h2, h3⟩ := h
    simp only [Val.lowL, Bool.and_eq_true]
    exact ⟨Rep.isLow x v h2.2, RepL.isLow xs r h3⟩
theorem RepK.isLow : ∀ (xs : List (Val × Val)) (ws : List (L2.Key × V)), RepK K hid ρ H xs ws → Val.lowD ρ.length xs = true
  | [], vs, h => rfl
  | (k, x) :: xs, vs, h => by
    simp only [RepK] at h
    obtain ⟨v, r, h1, h4, h2, h3⟩ := h
    simp only [Val.lowD, Bool.and_eq_true]
    exact ⟨Rep.isLow x v h2.2, RepK.isLow xs r h3⟩
theorem RepT.isLow : ∀ (xs : List (Val × Val)) (ws : List (List L2.Key × V)), RepT K hid ρ H xs ws → Val.lowD ρ.length xs = true
  | [], vs, h => rfl
  | (k, x) :: xs, vs, h => by
    simp only [RepT] at h
    obtain ⟨v, r, h1, h4, h2, h3⟩ := h
    simp only [Val.lowD, Bool.and_eq_true]
    exact ⟨Rep.isLow x v h2.2, RepT.isLow xs r h3⟩
end
theorem SOk.lowAt {S : Sto} (s : SOk K hid ρ H S) : LowAt S.length S := by
  refine ⟨Nat.le_refl _, fun n ob hn q => ?_⟩
  obtain ⟨a, h1, h2⟩ := s.ob n ob q
  rw [← s.len]
  cases ob with
  | lst xs =>
    obtain ⟨vs, q1, q2⟩ := h2
    exact RepL.isLow xs vs q2
  | dic t kvs =>
    cases t with
    | true =>
      obtain ⟨vs, q1, q2⟩ := h2
      exact RepT.isLow kvs vs q2
    | false =>
      obtain ⟨vs, q1, q2⟩ := h2
      exact RepK.isLow kvs vs q2
  | tbl p q => rfl
/-- fewer cells -/
structure Fewer (b : Nat) (ρ ρ' : List Addr) : Prop where
  at_ : ∀ (n : Nat) (a : Addr), n < b → ρ[n]? = some a → ρ'[n]? = some a
  sub : ∀ a, a ∉ ρ → a ∉ ρ'
variable {b : Nat}
mutual
theorem Rep.few (m : Fewer b ρ ρ') : ∀ (x : Val) (v : V), x.low b = true → Rep K hid ρ H x v → Rep K hid ρ' H x v
  | .non, v, _, h => by simp only [Rep] at h ⊢; exact h
  | .bl b, v, _, h => by simp only [Rep] at h ⊢; exact h
  | .int i, v, _, h => by simp only [Rep] at h ⊢; exact h
  | .str s, v, _, h => by simp only [Rep] at h ⊢; exact h
  | .tup xs, v, l, h => by
    simp only [Rep, Val.low] at h l ⊢
    obtain ⟨a, vs, h1, h2, h3⟩ := h
    exact ⟨a, vs, h1, h2, RepL.few m xs vs l h3⟩
  | .lst f xs, v, l, h => by
    simp only [Rep, Val.low] at h l ⊢
    obtain ⟨a, vs, h1, h2, h3, h4, h5⟩ := h
    exact ⟨a, vs, h1, h2, m.sub a h3, h4, RepL.few m xs vs l h5⟩
  | .dic f true kvs, v, l, h => by
    simp only [Rep, Val.low] at h l ⊢
    obtain ⟨a, vs, h1, h2, h3, h4, h5⟩ := h
    exact ⟨a, vs, h1, h2, m.sub a h3, h4, RepT.few m kvs vs l h5⟩
  | .dic f false kvs, v, l, h => by
    simp only [Rep, Val.low] at h l ⊢
    obtain ⟨a, vs, h1, h2, h3, h4, h5⟩ := h
    exact ⟨a, vs, h1, h2, m.sub a h3, h4, RepK.few m kvs vs l h5⟩
  | .ref n, v, l, h => by
    simp only [Rep, Val.low, decide_eq_true_eq] at h l ⊢
    obtain ⟨a, h1, h2⟩ := h
    exact ⟨a, m.at_ n a l h1, h2⟩
  | .kls ns, v, _, h => by simp only [Rep] at h ⊢; exact h
  | .fn _ _, v, _, h => by simp only [Rep] at h ⊢; exact h
  | .exn _ _, v, _, h => by simp only [Rep] at h ⊢; exact h
theorem RepL.few (m : Fewer b ρ ρ') : ∀ (xs : List Val) (vs : List V), Val.lowL b xs = true → RepL K hid ρ H xs vs → RepL K hid ρ' H xs vs
  | [], vs, _, h => by simp only [RepL] at h ⊢; exact h
  | x :: xs, vs, l, h => by
    simp only [RepL, Val.lowL, Bool.and_eq_true] at h l ⊢
    obtain ⟨v, r, h1, h2, h3⟩ := h
    exact ⟨v, r, h1, ⟨h2.1, Rep.few m x v l.1 h2.2⟩, RepL.few m xs r l.2 h3⟩
theorem RepK.few (m : Fewer b ρ ρ') : ∀ (xs : List (Val × Val)) (ws : List (L2.Key × V)), Val.lowD b xs = true → RepK K hid ρ H xs ws → RepK K hid ρ' H xs ws
  | [], vs, _, h => by simp only [RepK] at h ⊢; exact h
  | (k, x) :: xs, vs, l, h => by
    simp only [RepK, Val.lowD, Bool.and_eq_true] at h l ⊢
    obtain ⟨v, r, h1, h4, h2, h3⟩ := h
    exact ⟨v, r, h1, h4, ⟨h2.1, Rep.few m x v l.1 h2.2⟩, RepK.few m xs r l.2 h3⟩
theorem RepT.few (m : Fewer b ρ ρ') : ∀ (xs : List (Val × Val)) (ws : List (List L2.Key × V)), Val.lowD b xs = true → RepT K hid ρ H xs ws → RepT K hid ρ' H xs ws
  | [], vs, _, h => by simp only [RepT] at h ⊢; exact h
  | (k, x) :: xs, vs, l, h => by
    simp only [RepT, Val.lowD, Bool.and_eq_true] at h l ⊢
    obtain ⟨v, r, h1, h4, h2, h3⟩ := h
    exact ⟨v, r, h1, h4, ⟨h2.1, Rep.few m x v l.1 h2.2⟩, RepT.few m xs r l.2 h3⟩
end
theorem ObRep.few (m : Fewer b ρ ρ') {a : Addr} : ∀ {o : Ob}, o.low b = true → ObRep K hid ρ H a o → ObRep K hid ρ' H a o
  | .lst xs, l, ⟨vs, h1, h2⟩ => ⟨vs, h1, RepL.few m xs vs l h2⟩
  | .dic true xs, l, ⟨vs, h1, h2⟩ => ⟨vs, h1, RepT.few m xs vs l h2⟩
  | .dic false xs, l, ⟨vs, h1, h2⟩ => ⟨vs, h1, RepK.few m xs vs l h2⟩
  | .tbl p q, l, ⟨ea, ps, h1, h2, h3⟩ => ⟨ea, ps, h1, h2, fun pos cv hc => let ⟨c, e1, e2, e3⟩ := h3 pos cv hc; ⟨c, e1, m.sub c e2, e3⟩⟩
theorem fewer_app {new : List Addr} (hb : ρ.length = b) : Fewer b (ρ ++ new) ρ :=
  ⟨fun n a hn q => by rwa [List.getElem?_append_left (by omega)] at q, fun a h z => h (List.mem_append_left _ z)⟩
theorem fewer_app1 {new : List Addr} {a : Addr} (hb : ρ.length = b) (ha : a ∈ new) : Fewer b (ρ ++ new) (ρ ++ [a]) :=
  ⟨fun n c hn q => by rw [List.getElem?_append_left (by omega)] at q ⊢; exact q, fun c h z => by
    rcases List.mem_append.mp z with z | z
    · exact h (List.mem_append_left _ z)
    · rw [List.mem_singleton.mp z] at h; exact h (List.mem_append_right _ ha)⟩
theorem fewer_app2 {new : List Addr} {a : Addr} (hb : ρ.length = b) : Fewer b (ρ ++ new ++ [a]) (ρ ++ [a]) :=
  ⟨fun n c hn q => by rw [List.append_assoc, List.getElem?_append_left (by omega)] at q; rw [List.getElem?_append_left (by omega)]; exact q, fun c h z => by
    rcases List.mem_append.mp z with z | z
    · exact h (List.mem_append_left _ (List.mem_append_left _ z))
    · exact h (List.mem_append_right _ z)⟩
/-- the first cells -/
theorem SOk.first {new : List Addr} {S : Sto} (s : SOk K hid (ρ ++ new) H S) (hb : ρ.length = b) (l : LowAt b S) : SOk K hid ρ H (S.take b) := by
  refine ⟨by rw [List.length_take]; have := l.1; omega, (List.nodup_append.mp s.nd).1, fun a ha => s.apart a (List.mem_append_left _ ha), s.hidd, fun n ob q => ?_⟩
  have hn : n < b := by
    have := (List.getElem?_eq_some_iff.mp q).1
    rw [List.length_take] at this
    omega
  rw [List.getElem?_take_of_lt hn] at q
  obtain ⟨a, h1, h2⟩ := s.ob n ob q
  rw [List.getElem?_append_left (by omega)] at h1
  exact ⟨a, h1, h2.few (fewer_app hb) (l.2 n ob hn q)⟩
/-- the first cells and one more -/
theorem SOk.firstAnd {ρ1 : List Addr} {S : Sto} {a : Addr} {ob : Ob} (s : SOk K hid ρ1 H S) (m : Fewer b ρ1 (ρ ++ [a])) (hb : ρ.length = b) (ma : a ∈ ρ1) (na : a ∉ ρ) (nd : ρ.Nodup) (ap : ∀ c ∈ ρ, c ∈ ρ1) (l : LowAt b S) (h : ObRep K hid ρ1 H a ob) (lo : ob.low b = true) :
    SOk K hid (ρ ++ [a]) H (S.take b ++ [ob]) := by
  have hl : (S.take b).length = b := by rw [List.length_take]; have := l.1; omega
  refine ⟨by simp [hb, hl], ?_, ?_, s.hidd, fun n o q => ?_⟩
  · rw [List.nodup_append]
    exact ⟨nd, by simp, fun x hx y hy => by
      rw [List.mem_singleton] at hy
      subst hy
      exact fun z => na (z ▸ hx)⟩
  · intro c hc
    rcases List.mem_append.mp hc with hc | hc
    · exact s.apart c (ap c hc)
    · rw [List.mem_singleton.mp hc]; exact s.apart a ma
  · by_cases hn : n < b
    · rw [List.getElem?_append_left (by omega), List.getElem?_take_of_lt hn] at q
      obtain ⟨c, h1, h2⟩ := s.ob n o q
      exact ⟨c, m.at_ n c hn h1, h2.few m (l.2 n o hn q)⟩
    · have hn2 : n = b := by
        have := (List.getElem?_eq_some_iff.mp q).1
        simp [hl] at this
        omega
      subst hn2
      rw [List.getElem?_append_right (by omega)] at q
      simp [hl] at q
      subst q
      refine ⟨a, ?_, h.few m lo⟩
      rw [List.getElem?_append_right (by omega)]
      simp [hb]
end
section
variable {K : PySem.W.Frag} {hid ρ : List Addr} {H : Hp} {S : Sto}
/-- what is handed back -/
theorem freeze1_ok {ρ' new : List Addr} {H0 H' : Hp} {S' : Sto} {v v' : Val} {u : V} (eρ : ρ' = ρ ++ new) (hn : ∀ a ∈ new, Gone H0 a) (s : SOk K hid ρ' H' S') (l : LowAt ρ.length S') (e : freeze1 ρ.length S' v = some v') (r : Rep K hid ρ' H' v u) (fr : Fresh K hid ρ' H' S' H0 v u) :
    Rep K hid ρ H' v' u ∧ Fresh K hid ρ H' (S'.take ρ.length) H0 v' u := by
  subst eρ
  have nd := (List.nodup_append.mp s.nd).1
  have nn : ∀ a ∈ new, a ∉ ρ := fun a ha z => (List.nodup_append.mp s.nd).2.2 a z a ha rfl
  have mem : ∀ c ∈ ρ, c ∈ ρ ++ new := fun c hc => List.mem_append_left _ hc
  have val : v.low ρ.length = true → some v = some v' → Rep K hid ρ H' v' u ∧ Fresh K hid ρ H' (S'.take ρ.length) H0 v' u := fun lo e => by
    cases e
    refine ⟨Rep.few (fewer_app rfl) _ _ lo r, ?_⟩
    unfold Fresh at fr ⊢
    split
    · rename_i xs
      obtain ⟨a, h1, h2, h3⟩ := fr
      refine ⟨a, h1, h2, ?_⟩
      have hl := h3.len
      have na : a ∉ ρ ++ new := fun z => (List.nodup_append.mp h3.nd).2.2 a z a (by simp) rfl
      obtain ⟨c, q1, q2⟩ := h3.ob S'.length (.lst xs) (by simp)
      have hc : c = a := by
        rw [← s.len, List.getElem?_append_right (Nat.le_refl _)] at q1
        simp at q1
        exact q1.symm
      subst hc
      have l2 : LowAt ρ.length (S' ++ [Ob.lst xs]) := l.push
      have := h3.firstAnd (fewer_app2 rfl) rfl (by simp) (fun z => na (mem _ z)) nd (fun c hc => List.mem_append_left _ (mem c hc)) l2 q2 (by simpa only [Val.low, Ob.low] using lo)
      rw [List.take_append_of_le_length l.1] at this
      exact this
    · rename_i t kvs
      obtain ⟨a, h1, h2, h3⟩ := fr
      refine ⟨a, h1, h2, ?_⟩
      have na : a ∉ ρ ++ new := fun z => (List.nodup_append.mp h3.nd).2.2 a z a (by simp) rfl
      obtain ⟨c, q1, q2⟩ := h3.ob S'.length (.dic t kvs) (by simp)
      have hc : c = a := by
        rw [← s.len, List.getElem?_append_right (Nat.le_refl _)] at q1
        simp at q1
        exact q1.symm
      subst hc
      have l2 : LowAt ρ.length (S' ++ [Ob.dic t kvs]) := l.push
      have := h3.firstAnd (fewer_app2 rfl) rfl (by simp) (fun z => na (mem _ z)) nd (fun c hc => List.mem_append_left _ (mem c hc)) l2 q2 (by simpa only [Val.low, Ob.low] using lo)
      rw [List.take_append_of_le_length l.1] at this
      exact this
    · trivial
  unfold freeze1 at e
  split at e
  · rename_i n
    split at e
    · rename_i hlt
      exact val (by simpa only [Val.low, decide_eq_true_eq] using hlt) e
    · rename_i hge
      split at e
      · rename_i xs hq
        split at e
        · rename_i lo
          cases e
          obtain ⟨a, ea, ha, hob⟩ := s.cell r hq
          subst ea
          have ha' : a ∈ new := by
            rw [List.getElem?_append_right (by omega)] at ha
            exact List.mem_of_getElem? ha
          have lo' : (Ob.lst xs).low ρ.length = true := lo
          have hob' := hob.few (fewer_app (ρ := ρ) rfl) lo'
          obtain ⟨vs, q1, q2⟩ := hob'
          refine ⟨?_, a, rfl, hn a ha', s.firstAnd (fewer_app1 rfl ha') rfl (List.mem_append_right _ ha') (nn a ha') nd mem l hob lo⟩
          simp only [Rep]
          exact ⟨a, vs, rfl, q1, nn a ha', s.apart a (List.mem_append_right _ ha'), q2⟩
        · cases e
      · rename_i t kvs hq
        split at e
        · rename_i lo
          cases e
          obtain ⟨a, ea, ha, hob⟩ := s.cell r hq
          subst ea
          have ha' : a ∈ new := by
            rw [List.getElem?_append_right (by omega)] at ha
            exact List.mem_of_getElem? ha
          have lo' : (Ob.dic t kvs).low ρ.length = true := lo
          have hob' := hob.few (fewer_app (ρ := ρ) rfl) lo'
          refine ⟨?_, a, rfl, hn a ha', s.firstAnd (fewer_app1 rfl ha') rfl (List.mem_append_right _ ha') (nn a ha') nd mem l hob lo⟩
          cases t with
          | true =>
            obtain ⟨vs, q1, q2⟩ := hob'
            simp only [Rep]
            exact ⟨a, vs, rfl, q1, nn a ha', s.apart a (List.mem_append_right _ ha'), q2⟩
          | false =>
            obtain ⟨vs, q1, q2⟩ := hob'
            simp only [Rep]
            exact ⟨a, vs, rfl, q1, nn a ha', s.apart a (List.mem_append_right _ ha'), q2⟩
        · cases e
      · cases e
  · split at e
    · rename_i lo
      exact val lo e
    · cases e
theorem freezeL_ok {ρ' new : List Addr} {H0 H' : Hp} {S' : Sto} (eρ : ρ' = ρ ++ new) (hn : ∀ a ∈ new, Gone H0 a) (s : SOk K hid ρ' H' S') (l : LowAt ρ.length S') : ∀ {xs ys : List Val} {us : List V}, freezeL ρ.length S' xs = some ys → RepL K hid ρ' H' xs us → RepL K hid ρ H' ys us
  | [], ys, us, e, r => by
    simp only [freezeL, Option.some.injEq] at e
    subst e
    simp only [RepL] at r ⊢
    exact r
  | x :: xs, ys, us, e, r => by
    simp only [freezeL] at e
    split at e
    · rename_i y zs h1 h2
      cases e
      simp only [RepL] at r
      obtain ⟨v, w, ev, rx, rr⟩ := r
      subst ev
      exact .cons ⟨st_settle y, (freeze1_ok eρ hn s l h1 rx.2 (.of_st rx.1)).1.settle⟩ (freezeL_ok eρ hn s l h2 rr)
    · cases e
theorem freeze_ok {ρ' new : List Addr} {H0 H' : Hp} {S' : Sto} {v v' : Val} {u : V} (eρ : ρ' = ρ ++ new) (hn : ∀ a ∈ new, Gone H0 a) (s : SOk K hid ρ' H' S') (l : LowAt ρ.length S') (e : freeze ρ.length S' v = some v') (r : Rep K hid ρ' H' v u) (fr : Fresh K hid ρ' H' S' H0 v u) :
    Rep K hid ρ H' v' u ∧ Fresh K hid ρ H' (S'.take ρ.length) H0 v' u := by
  unfold freeze at e
  split at e
  · split at e
    · rename_i ys hy
      cases e
      simp only [Rep] at r ⊢
      obtain ⟨a, vs, h1, h2, h3⟩ := r
      exact ⟨⟨a, vs, h1, h2, freezeL_ok eρ hn s l hy h3⟩, trivial⟩
    · cases e
  · exact freeze1_ok eρ hn s l e r fr
theorem Ext.back {new : List Addr} {H' : Hp} (e : Ext ρ H (ρ ++ new) H') : Ext ρ H ρ H' := ⟨⟨[], by simp, by simp⟩, e.keep0, e.there0, e.tups, e.frzs⟩
theorem finish_ok {c : Ctx} {r : R (Fl × Env)} {Q : VK} {Z : XK} (hs : SOk K hid ρ H S) (kp : KeepR S.length r) (h : OutS K hid ρ H (finish S.length r) (Gv K hid H Q) (fun k _ _ H' => ∀ C, c.cls k = some C → Z (.ref C) none H')) :
    OutS K hid ρ H r (Fin K hid H { nx := fun _ H' => Q .non H', rt := Q }) (XW c fun cls d _ H => Z cls d H) := by
  cases r with
  | bad => exact h.elim
  | exc k ps S' =>
    intro ρ' H' e s C hC σ
    obtain ⟨new, eρ, hn⟩ := e.more
    have kp' : LowAt S.length S' := kp
    simp only [finish] at h
    rw [← hs.len] at kp' h
    subst eρ
    exact h ρ H' e.back (s.first rfl kp') C hC
  | ok f S' =>
    intro ρ' H' e s
    obtain ⟨new, eρ, hn⟩ := e.more
    obtain ⟨f, env⟩ := f
    have kp' : LowAt S.length S' := kp
    rw [← hs.len] at kp' h
    cases f with
    | bk => exact h.elim
    | ct => exact h.elim
    | nx =>
      intro σ' hE
      subst eρ
      exact h ρ H' e.back (s.first rfl kp') .non .of_non trivial
    | rt v =>
      intro u ru fu
      simp only [finish] at h
      split at h
      · exact h ρ' H' e s u ru fu
      · cases hv : freeze ρ.length S' v with
        | none => rw [hv] at h; exact h.elim
        | some v' =>
          rw [hv] at h
          obtain ⟨q1, q2⟩ := freeze_ok eρ hn s kp' hv ru fu
          subst eρ
          exact h ρ H' e.back (s.first rfl kp') u q1 q2
/-- a def of the text, its body told by the evaluator's -/
theorem fn_okQ {P : Program} {w : World} {mg : Str → Option Value} {base : Heap} {x qual : Str} {st : Stmt} {fa : Addr} {fd : FuncData} {N ps : List Str} {k j f : Nat} {PG : Prog} {d : Def} (F : Fun K x qual st fa fd) (SC : FnScope N ps (defScope st)) (hd : PG.fns[f]? = some d) (ha : d.arity = ps.length) (hz : d.size = N.length)
    (hbody : ∀ (cdv : Value) (A : Around) (outer : List PySem.Env) (s : Shared) (H : Hp) (Z : XK) (b : Nat), PySem.W.codeIn K cdv qual = true → fd.code = cdv → Room k (A.deeper (envOfC qual (defScope st) s.heap.objs.size fa cdv)) →
      PSs (cxOf (L2N.CX P w) P w K mg base N qual (defScope st) fa cdv A outer s H Z) (defBody st) (tSs K (ctxOf PG (callFn PG j) b) (fun cls d _ H => Z cls d H) d.body)) :
    FnOk P w K mg base (L2N.CX P w) (k + 1) fa fd ps (spF K (fun i => PG.cls[i]?) (callFn PG (j + 1)) f) := by
  obtain ⟨oc, od, kV, doc, pm, an, cdv, ct, osl, rfl, lk, hcd⟩ := F.ex
  refine fn_of lk hcd SC (fun vs H Q E h => ?_) fun A outer s H vs Q Z hr h => ?_
  · obtain ⟨hid, ρ, S, xs, hs, rl, o⟩ := h
    simp only [callFn, hd] at o
    split at o
    · rename_i hl
      rw [rl.length, hl, ha]
    · exact o.elim
  · obtain ⟨hid, ρ, S, xs, hs, rl, o⟩ := h
    simp only [callFn, hd] at o
    split at o
    · rename_i hl
      refine ⟨_, hbody cdv A outer s H Z S.length hcd rfl hr, hid, ρ, _, S, ?_, hs, finish_ok (c := ctxOf PG (callFn PG j) S.length) hs (keepSs (c := ctxOf PG (callFn PG j) S.length) (Nat.le_refl _) (fun f vs S h => keepFn j f vs S h) d.body _ S hs.lowAt) o⟩
      have lv := rl.length
      refine ⟨by simp [L2.start, lv, hz, hl, ha], fun i y q => ?_⟩
      have hi : i < xs.length := by
        by_cases hi : i < xs.length
        · exact hi
        · rw [List.getElem?_append_right (by simpa using hi)] at q
          have := List.mem_of_getElem? q
          rw [List.mem_replicate] at this
          cases this.2
      rw [List.getElem?_append_left (by simpa using hi)] at q
      have q : xs[i]? = some y := by simpa using q
      obtain ⟨v, h1, h2⟩ := rl.get q
      refine ⟨v, ?_, h2⟩
      unfold L2.start
      rw [List.getElem?_append_left (by simp [lv, hi])]
      simp [h1]
    · exact o.elim
end
end QE

set_option Elab.async false
set_option linter.all false
set_option maxRecDepth 10000
set_option maxHeartbeats 1000000
/-! Dict comprehensions, the keys plain or tuples. -/
namespace QE
open PySem PySem.Spec PyProof.Rows L2
section
variable {X : Cx}
/-- a pair goes into a dict of either kind -/
theorem put_ok {pins : List (Addr × Obj)} {σ : L2.St} {H H' : Hp} {s : Shared} {E : Value → Shared → Prop} {D : Addr} {y z : V} {yv zv : Value} {Q : Unit → Shared → Prop} (hu : X.A.units + 1 < cLine) (I : Inv X pins σ H s) (g : DPut H D y z H') (ry : RelV y yv) (rz : RelV z zv)
    (k : ∀ s', Inv X pins σ H' s' → Q () s') : wpAny (model X.prog X.w) X.A (dictSet D yv zv) Q E s := by
  rcases g with ⟨kvs, key, e, ey, l, eH⟩ | ⟨kvs, key, b, e, ey, eb, l, eH⟩
  · subst ey eH
    exact d_dictSet I e l ry rz k
  · subst ey eH
    cases (show yv = Value.ref b from ry)
    obtain ⟨hz0, hd, qs, rel, dd⟩ := dt_of I.hok e
    have hz : qs.length ≤ sizeLine := by rw [← Paired.length rel]; exact hz0
    have hl : (putK kvs key z).length ≤ sizeLine := by have := length_putK kvs key z; omega
    refine wpAny_dictSet_heap (hsz := hz) (knd := tupleKind (mixKind X.prog X.w)) (Nat.lt_of_succ_lt hu) (key_of I.hok eb) dd fun h' dd' hs => k _ ?_
    obtain ⟨q, es, ep, hq, k2, k3, k4, _, k5⟩ := dd'
    refine d_write I (by rw [e]; exact True.intro) hs ⟨q, hq⟩ ⟨hl, hd, _, (rel.put key eb rz).keeps fun c ys ec => ?_, q, es, ep, hq, k2, k3, k4, k5⟩
    rw [upd_ne (L2.ne_of ec e (fun z => nomatch z))]
    exact ec
/-- {k: v for target in iter}: the dict at D from o0 on -/
def tDq (wi : TI) (g : TG) (tk tv : TE) (vs : List Nat) (o0 : HO) : TE := fun σ H Q => wi σ H fun J H1 => ∀ D, H1 D = none → ∃ W : Nat → Nat → Hp → Prop, (∃ m, W 0 m (upd H1 D o0)) ∧ ∀ i m H2, W i m H2 →
  (J.stop i H2 ∧ Q (.ref D) H2) ∨ (J.go i H2 ∧ ∃ Nx : Hp → Prop, (∀ H', Nx H' → ∃ m', m' < m ∧ W (i + 1) m' H') ∧ ∀ x H', J.yld i H2 x H' → g x (L2.wipe σ vs) H' fun σ2 H3 => L2.wipe σ2 vs = L2.wipe σ vs ∧
    tk σ2 H3 fun y H4 => tv σ2 H4 fun z H5 => ∃ H6, DPut H5 D y z H6 ∧ Nx H6)
/-- an empty dict of either kind -/
def Empty (o0 : HO) : Prop := o0 = .dK [] ∨ o0 = .dT []
theorem empty_ok {o0 : HO} (e : Empty o0) {P : Program} {w : World} {H : Hp} (h : Heap) (hb : sysModules < h.objs.size) : ObjOk P w H (h.push { cls := .type "dict", data := .dict #[] }) h.objs.size o0 := by
  rcases e with rfl | rfl
  · exact dk_empty h hb
  · exact dt_empty h hb
theorem dq_core {pins : List (Addr × Obj)} {s : Shared} {σ : L2.St} {H : Hp} {Q : VK} {kx vx tg iter : Expr} {scope : Scope} {own : List (Str × Nat)} {pos pos' : Pos} {wi : TI} {g : TG} {tk tv : TE} {o0 : HO} {use : Option (Value → Sem Unit)} {Qf : Value → Shared → Prop}
    (ho : Empty o0) (hu : X.A.units + 1 < cLine) (hc : X.calm = true) (hN : X.N.Nodup) (I : Inv X pins σ H s) (hi : PI X tg iter wi) (ok : BlkOk X.N X.env.scope scope own)
    (hg : ∀ (z : Shared) (G : Hp) (C : Addr) (cl : List (Str × Addr)) (fp : List Addr), PG (X.blk z G scope (compEnvC scope cl C X.env) fp) tg g)
    (hk : ∀ (z : Shared) (G : Hp) (C : Addr) (cl : List (Str × Addr)) (fp : List Addr), PE (X.blk z G scope (compEnvC scope cl C X.env) fp) kx tk)
    (he : ∀ (z : Shared) (G : Hp) (C : Addr) (cl : List (Str × Addr)) (fp : List Addr), PE (X.blk z G scope (compEnvC scope cl C X.env) fp) vx tv) (hs : ∀ x, foldedSetIterable iter X.env x = pure x)
    (h : tDq wi g tk tv (own.map (·.2)) o0 σ H Q)
    (post : ∀ D C z m G, Inv X pins σ G z → Q (.ref D) G → z.heap.Ns C m → FpOk X pins G C → compPost (model X.prog X.w) X.A X.xe use Qf (.ref D) C (.ok .next) z) :
    wpAny (model X.prog X.w) X.A (comprehension (.DictComp kx vx [⟨tg, iter, [], 0⟩] scope pos) scope X.env pos' newDict false (eval iter X.env) use) Qf X.xe s := by
  have cap : ∀ y ∈ scope.names, y.2 = .free → ∃ c, X.env.cells.lookup y.1 = some c := fun y hy e => (ok.free y hy e).elim (fun k => I.ok.has _ (.inl k)) fun k => I.ok.has _ (.inr k)
  refine wpAny_comprehension_free (use := use) rfl hs (closure_ok cap) ok.kind (fun y hy e => by rw [ok.uniq y hy, e])
    (thn (hi.run pins s σ H _ I h) fun xv z1 hx => thn hx fun itv z2 hit => ?_)
  obtain ⟨it, fp, tn, J, G2, e, J2, T, at0, fr2, q⟩ := hit
  subst e
  refine wpAny_newObj_type (newEnv_comp ?_)
  generalize hD : z2.heap.objs.size = D
  have Dn : G2 D = none := J2.hok.fresh (Nat.le_of_eq hD)
  obtain ⟨W, ⟨m0, w0⟩, turn⟩ := q D Dn
  generalize hz3 : ({ z2 with heap := z2.heap.push { cls := .type "dict", data := .dict #[] } } : Shared) = z3
  have J3 : Inv X pins σ (upd G2 D o0) z3 := by
    rw [← hz3]
    refine J2.laid (t' := z2.toks) (fun b o e => Heap.get?_push_of_some _ e) (Nat.le_of_eq hD) ?_
    rw [← hD]
    exact empty_ok ho z2.heap J2.big
  have hp3 : z3.heap = z2.heap.push { cls := .type "dict", data := .dict #[] } := by rw [← hz3]
  have fr3 : ∀ b ∈ fp, FpOk X pins (upd G2 D o0) b ∧ b < z3.heap.objs.size := fun b hb => by
    obtain ⟨ob, eb, _⟩ := T.obj _ _ at0 b hb
    have lt := Heap.lt_size eb
    refine ⟨⟨?_, (fr2 b hb).2⟩, by rw [hp3, Heap.size_push]; exact Nat.lt_succ_of_lt lt⟩
    rw [upd_ne (by rw [← hD]; exact Nat.ne_of_lt lt)]
    exact (fr2 b hb).1
  have at3 : tn 0 z3.heap := T.keep _ _ _ at0 fun b _ o e => by rw [hp3]; exact Heap.get?_push_of_some _ e
  have J4 := block_start J3 ok hN fr3
  generalize hcl : cellsFrom (z3.heap.objs.size + 1) scope.names (cloFrom X.env.cells scope.names []) = cls at J4 ⊢
  have pg := hg z3 (upd G2 D o0) z3.heap.objs.size cls fp
  have pk := hk z3 (upd G2 D o0) z3.heap.objs.size cls fp
  have pv := he z3 (upd G2 D o0) z3.heap.objs.size cls fp
  show codeAny _ _ (.compStart (.DictComp kx vx [⟨tg, iter, [], 0⟩] scope pos) 0 (.ref it) (.ref D) (compEnvC scope cls z3.heap.objs.size X.env)) _ { z3 with heap := pushCells (z3.heap.push { cls := .type "dict", data := .dict #[] }) scope.names }
  have nf3 : ∀ b ∈ fp, (upd G2 D o0) b = none := fun b hb => (fr3 b hb).1.1
  generalize hce : compEnvC scope cls z3.heap.objs.size X.env = ce at J4 pg pk pv ⊢
  have hloc : ce.locals = z3.heap.objs.size := by subst hce; rfl
  generalize hG3 : upd G2 D o0 = G3 at J3 J4 pg pk pv w0 nf3 fr3
  generalize hz4 : ({ z3 with heap := pushCells (z3.heap.push { cls := .type "dict", data := .dict #[] }) scope.names } : Shared) = z4 at J4 ⊢
  have at4 : tn 0 z4.heap := T.keep _ _ _ at3 fun b _ o e => by rw [← hz4]; exact pushCells_keeps _ _ _ _ (Heap.get?_push_of_some _ e)
  have own' : ∀ {σ' : L2.St} {H' : Hp} {s' : Shared}, Inv (X.blk z3 G3 scope ce fp) [] σ' H' s' → (∀ b ∈ fp, H' b = none) → ∀ b ∈ fp, FpOk (X.blk z3 G3 scope ce fp) [] H' b := fun {σ' H' s'} I' hn b hb =>
    ⟨hn b hb, (I'.ok.exf b hb).1, I'.ok.exfs b hb, .inl hb, fun x c e => (I'.ok.exf b hb).2 x c e, fun p hp => absurd (show p ∈ ([] : List (Addr × Obj)) ++ [] from hp) (by simp)⟩
  refine codeAny_compStart_dict ?_ (T.self X.A 0 _ _ _ at4 ?_)
  all_goals
    refine compLoop_anyD (fun n s' => ∃ i H', Inv (X.blk z3 G3 scope ce fp) [] (L2.wipe σ (own.map (·.2))) H' s' ∧ tn i s'.heap ∧ (∀ b ∈ fp, H' b = none) ∧ W i n H') ?_ m0 ⟨0, G3, J4, at4, nf3, w0⟩
    rintro n z5 ⟨i, G5, J5, at5, nf5, w5⟩
    rcases turn i n G5 w5 with ⟨stop, qq⟩ | ⟨go, Nx, hNx, step⟩
    · refine thnF (T.done (X.blk z3 G3 scope ce fp) rfl rfl rfl hc i [] z5 _ G5 (fun _ _ => False) J5 (own' J5 nf5) at5 stop) fun r z6 ⟨hr, J6⟩ => ?_
      subst hr
      have J7 : Inv X pins σ G5 z6 := J3.call' (ch := fp) J6.os J6.base J6.hok J6.bare fun b hb => ⟨(fr3 b hb).1.2.2.2.1, (fr3 b hb).1.2.1, (fr3 b hb).1.2.2.2.2.1, (fr3 b hb).1.2.2.2.2.2⟩
      have nC : G5 z3.heap.objs.size = none := hloc ▸ J6.free
      obtain ⟨m, hm, _⟩ := J6.loc
      have hm : z6.heap.Ns ce.locals m := hm
      rw [hloc] at hm
      exact post D z3.heap.objs.size z6 m G5 J7 qq hm (J3.fpOk (Nat.le_refl _) nC)
    · refine thnF (T.item (X.blk z3 G3 scope ce fp) rfl rfl rfl hc i [] z5 _ G5 (fun _ _ => False) J5 (own' J5 nf5) at5 go) fun r z6 ⟨u, hr, h6⟩ => ?_
      subst hr
      refine thnF h6 fun _ z7 ⟨x, G7, J7, rx, yx, at7, nf7⟩ => ?_
      have J7' := J7.pinned (own' J7 nf7) (T.obj _ _ at7)
      refine thnF (pg.run _ z7 _ G7 x u _ J7' rx (step x G7 yx)) fun _ z8 ⟨σ8, G8, J8, hw8, q8⟩ => ?_
      refine wpAny_tests_nil ?_
      simp only [if_true]
      have fin : ∀ {s' : Shared} {H' : Hp}, Inv (X.blk z3 G3 scope ce fp) ([] ++ pinsAt fp z7.heap) σ8 H' s' → Nx H' → ∃ m, m < n ∧ ∃ i H', Inv (X.blk z3 G3 scope ce fp) [] (L2.wipe σ (own.map (·.2))) H' s' ∧ tn i s'.heap ∧ (∀ b ∈ fp, H' b = none) ∧ W i m H' := fun {s' H'} I' nx => by
        obtain ⟨m', hm, w'⟩ := hNx H' nx
        have pin' : ∀ b ∈ fp, ∀ o, z7.heap.get? b = some o → s'.heap.get? b = some o ∧ H' b = none := fun b hb o e =>
          let p := I'.pin (b, o) (List.mem_append_right _ (List.mem_append_right _ (mem_pinsAt hb e)))
          ⟨p.1, p.2.1⟩
        have hl : (L2.wipe σ (own.map (·.2))).length = σ8.length := by rw [← hw8, wipe_length]
        refine ⟨m', hm, i + 1, H', (I'.unpinned (pins := [])).weak hl (fun j v e => (wipe_some (hw8 ▸ e)).1), T.keep _ _ _ at7 fun b hb o e => (pin' b hb o e).1, fun b hb => ?_, w'⟩
        obtain ⟨o, e, _⟩ := T.obj _ _ at7 b hb
        exact (pin' b hb o e).2
      refine thnF (pk.run _ z8 σ8 G8 _ J8 q8) fun kv z9 ⟨yk, G9, J9, r9, q9⟩ => ?_
      refine thnF (pv.run _ z9 σ8 G9 _ J9 q9) fun vv z10 ⟨yv, G10, J10, r10, G11, dp, nx⟩ => ?_
      exact put_ok (X := X.blk z3 G3 scope ce fp) hu J10 dp r9 r10 fun z11 J11 => fin J11 nx
theorem pe_dq {kx vx tg iter : Expr} {scope : Scope} {own : List (Str × Nat)} {pos : Pos} {wi : TI} {g : TG} {tk tv : TE} {o0 : HO} (ho : Empty o0) (hu : X.A.units + 1 < cLine) (hc : X.calm = true) (hN : X.N.Nodup) (hi : PI X tg iter wi) (ok : BlkOk X.N X.env.scope scope own)
    (hg : ∀ (z : Shared) (G : Hp) (C : Addr) (cl : List (Str × Addr)) (fp : List Addr), PG (X.blk z G scope (compEnvC scope cl C X.env) fp) tg g)
    (hk : ∀ (z : Shared) (G : Hp) (C : Addr) (cl : List (Str × Addr)) (fp : List Addr), PE (X.blk z G scope (compEnvC scope cl C X.env) fp) kx tk)
    (he : ∀ (z : Shared) (G : Hp) (C : Addr) (cl : List (Str × Addr)) (fp : List Addr), PE (X.blk z G scope (compEnvC scope cl C X.env) fp) vx tv) (hs : ∀ x, foldedSetIterable iter X.env x = pure x) :
    PE X (.DictComp kx vx [⟨tg, iter, [], 0⟩] scope pos) (tDq wi g tk tv (own.map (·.2)) o0) := by
  refine ⟨fun pins s σ H Q I h => ?_⟩
  rw [arm_eval_DictComp]
  refine dq_core ho hu hc hN I hi ok hg hk he hs h fun D C z m G I' q hm f => ⟨m, hm, fun h'' sb => ?_⟩
  obtain ⟨f0, f1, f2, f3, f4, f5⟩ := f
  exact ⟨.ref D, G, I'.turned (t' := z.toks) (fun b o hb e => (sb.2 b hb).trans e) f0 f1 f3 f4 f5, rfl, q⟩
/-- name = {..} on one line, the name a local -/
theorem ps_setDq {i : Nat} {y : Str} {py : Pos} {kx vx tg iter : Expr} {scope : Scope} {own : List (Str × Nat)} {pos spos : Pos} {wi : TI} {g : TG} {tk tv : TE} {o0 : HO} (ho : Empty o0) (hu : X.A.units + 1 < cLine) (hc : X.calm = true) (hN : X.N.Nodup)
    (hy : X.N[i]? = some y) (hyl : X.env.scope.names.lookup y = some .local) (hsw : swapsWith (.DictComp kx vx [⟨tg, iter, [], 0⟩] scope pos) (some (.Name y py)) spos.line X.env = pure true) (hi : PI X tg iter wi) (ok : BlkOk X.N X.env.scope scope own)
    (hg : ∀ (z : Shared) (G : Hp) (C : Addr) (cl : List (Str × Addr)) (fp : List Addr), PG (X.blk z G scope (compEnvC scope cl C X.env) fp) tg g)
    (hk : ∀ (z : Shared) (G : Hp) (C : Addr) (cl : List (Str × Addr)) (fp : List Addr), PE (X.blk z G scope (compEnvC scope cl C X.env) fp) kx tk)
    (he : ∀ (z : Shared) (G : Hp) (C : Addr) (cl : List (Str × Addr)) (fp : List Addr), PE (X.blk z G scope (compEnvC scope cl C X.env) fp) vx tv) (hs : ∀ x, foldedSetIterable iter X.env x = pure x) :
    PS X (.Assign [.Name y py] (.DictComp kx vx [⟨tg, iter, [], 0⟩] scope pos) spos) (tAsg (tDq wi g tk tv (own.map (·.2)) o0) (gName i)) := by
  refine ⟨fun pins s σ H D I h => ?_⟩
  rw [exec_Assign_Name_used _ _ _ _ hsw]
  refine wpAny_bind (wpAny_standAt (wpAny_bind ?_))
  show wpAny _ X.A (do let _ ← comprehension (.DictComp kx vx [⟨tg, iter, [], 0⟩] scope pos) scope X.env (firstIterPos [⟨tg, iter, [], 0⟩] pos) newDict false (eval iter X.env) (some (assign (.Name y py) X.env))) _ _ s
  have h : tDq wi g tk tv (own.map (·.2)) o0 σ H (fun x H1 => gName i x σ H1 D.nx) := h
  refine wpAny_bind (thn (dq_core (Qf := fun _ s' => SP X pins D .next s') ho hu hc hN I hi ok hg hk he hs h fun L C z m G I' q hm f => ?_) fun _ s' hq => wpAny_pure (wpAny_pure hq))
  show wpAny _ _ (assign (.Name y py) X.env (.ref L)) _ _ _
  refine wpAny_assign_Name (store_ok2 (v := V.ref L) I' hN hy (.inl hyl) rfl (fun s2 I2 ⟨a, sb, ha⟩ => ?_) (.inr hyl))
  obtain ⟨f0, f1, f2, f3, f4, f5⟩ := f
  have apart : C ≠ a := by
    rcases ha with z | z
    · rw [z]; exact f1
    · exact fun e => f4 y a z e.symm
  exact ⟨m, hm.sameBut sb apart, fun h3 sb3 => ⟨_, G, I2.turned (t' := s2.toks) (fun b o hb e => (sb3.2 b hb).trans e) f0 f1 f3 f4 f5, q⟩⟩
theorem swD_true {kx vx : Expr} {gs : List Comprehension} {scope : Scope} {pos py : Pos} {y : Str} {l : Nat} {env : PySem.Env} (hk : env.scope.kind = .function) (hy : env.scope.names.lookup y = some .local) (hl : (py.line == pos.line) = true)
    (ha : (scope.names.any fun (n, k) => n == y && (k == .local || k == .cell)) = false) : swapsWith (.DictComp kx vx gs scope pos) (some (.Name y py)) l env = pure true := by
  have ky : env.kindOf y = some .local := hy
  have hb : env.blockKind = .function := by unfold Env.blockKind; rw [hk]; rfl
  unfold swapsWith
  simp only [hb, ky, ha, Expr.pos, hl]
  rfl
/-- what a dict of kind t holds -/
def DRep (K : PySem.W.Frag) (hid ρ : List Addr) (H : Hp) (t : Bool) (kvs : List (Val × Val)) (u : HO) : Prop := match t with
  | true => ∃ ws, u = .dT ws ∧ RepT K hid ρ H kvs ws
  | false => ∃ ws, u = .dK ws ∧ RepK K hid ρ H kvs ws
def emptyOf (t : Bool) : HO := if t then .dT [] else .dK []
theorem DRep.to {K : PySem.W.Frag} {hid ρ hid' ρ' : List Addr} {H H' : Hp} (m : RepTo hid ρ H hid' ρ' H') {t : Bool} {kvs : List (Val × Val)} {u : HO} (h : DRep K hid ρ H t kvs u) : DRep K hid' ρ' H' t kvs u := by
  cases t with
  | true => obtain ⟨ws, e, r⟩ := h; exact ⟨ws, e, RepT.to m _ _ r⟩
  | false => obtain ⟨ws, e, r⟩ := h; exact ⟨ws, e, RepK.to m _ _ r⟩
theorem DRep.mono {K : PySem.W.Frag} {hid ρ ρ' : List Addr} {H H' : Hp} (m : Ext ρ H ρ' H') {t : Bool} {kvs : List (Val × Val)} {u : HO} (h : DRep K hid ρ H t kvs u) : DRep K hid ρ' H' t kvs u := by
  cases t with
  | true => obtain ⟨ws, e, r⟩ := h; exact ⟨ws, e, RepT.mono m _ _ r⟩
  | false => obtain ⟨ws, e, r⟩ := h; exact ⟨ws, e, RepK.mono m _ _ r⟩
theorem DRep.kind {K : PySem.W.Frag} {hid ρ : List Addr} {H : Hp} {t : Bool} {kvs : List (Val × Val)} {u : HO} (h : DRep K hid ρ H t kvs u) : NT u ∧ ∀ φ, u ≠ .ext φ := by
  cases t <;> (obtain ⟨ws, e, _⟩ := h; subst e; exact ⟨fun _ z => (by cases z), fun _ z => (by cases z)⟩)
theorem DRep.put {K : PySem.W.Frag} {hid ρ : List Addr} {H : Hp} {D : Addr} {t : Bool} {kvs : List (Val × Val)} {u : HO} {k x : Val} {y v : V} (h : DRep K (D :: hid) ρ H t kvs u) (hD : H D = some u) (hl : kvs.length < lim) (hk : k.isKey t = true) (rk : Rep K (D :: hid) ρ H k y)
    (rx : x.st = true ∧ Rep K (D :: hid) ρ H x v) : ∃ u', DPut H D y v (upd H D u') ∧ DRep K (D :: hid) ρ (upd H D u') t (dPut k x kvs) u' ∧ ∀ xs, u ≠ .tup xs := by
  cases t with
  | true =>
    obtain ⟨ws, e, r⟩ := h
    subst e
    obtain ⟨ks, e2, h3⟩ := isKey_true hk
    subst e2
    obtain ⟨c, us, e3, h5, r5⟩ := rk.tup_
    have h6 := flatKeys_rep h3 r5
    subst e3 h6
    refine ⟨.dT (putK ws (ks.map keyOf) v), DPut.t hD h5 (by rw [r.length, ← lim_eq]; exact hl), ⟨_, rfl, ?_⟩, fun _ z => nomatch z⟩
    exact RepT.to (to_over hD (fun _ z => nomatch z)) _ _ (RepT.put hk rx r)
  | false =>
    obtain ⟨ws, e, r⟩ := h
    subst e
    have h3 : k.flatKey = true := by simpa [Val.isKey] using hk
    have h6 := flatKey_rep h3 rk
    subst h6
    refine ⟨.dK (putK ws (keyOf k) v), DPut.k hD (by rw [r.length, ← lim_eq]; exact hl), ⟨_, rfl, ?_⟩, fun _ z => nomatch z⟩
    exact RepK.to (to_over hD (fun _ z => nomatch z)) _ _ (RepK.put h3 rx r)
theorem dMap_len (k v : Val) : ∀ kvs : List (Val × Val), (dMap k v kvs).length = kvs.length
  | [] => rfl
  | (q, u) :: r => by simp only [dMap, List.length_cons, dMap_len k v r]
theorem dPut_len (k v : Val) (kvs : List (Val × Val)) : (dPut k v kvs).length ≤ kvs.length + 1 := by
  unfold dPut
  split
  · rw [dMap_len]; omega
  · simp
theorem dc_read {c : Ctx} {own : List Nat} {tg : T} {src : Src} {t : Bool} {ek ev : E} (hown : ∀ i ∈ tgN tg, i ∈ own) {σ : L2.St} {H : Hp} {Q : VK} (h : tE X.K c (.dcomp own tg src t ek ev) σ H Q) :
    tDq (tI X.K c src) (tG X.K tg) (tE X.K c ek) (tE X.K c ev) own (emptyOf t) σ H Q := by
  obtain ⟨hid, ρ, env, S, hE, hs, h⟩ := h
  simp only [evalE] at h
  obtain ⟨xs, S1, q, hk⟩ := h.bind
  refine ⟨hid, ρ, env, S, hE, hs, ?_⟩
  rw [q]
  intro ρ1 H1 e1 s1 J w D hD
  obtain ⟨ys, S', q2, hk2⟩ := (hk ρ1 H1 e1).bind
  have q2 := calm_ok q2
  have hlim : xs.length ≤ lim := by
    have := hk2 ρ1 H1 (Ext.refl _ _)
    split at this
    · assumption
    · exact this.elim
  have wk := (w.hide0 hD).walk
  let Pv : Nat → Hp → Prop := fun i H2 => ∃ ρ2 S2 acc u, H2 D = some u ∧ DRep X.K (D :: hid) ρ2 H2 t acc u ∧ SOk X.K (D :: hid) ρ2 H2 S2 ∧ Ext ρ1 H1 ρ2 H2 ∧
    dcompLoop tg t (evalE c ek) (evalE c ev) (QE.wipe env own) (xs.drop i) acc S2 = .ok ys S' ∧ acc.length ≤ i
  have step : ∀ i v H2 H3, i < xs.length → Pv i H2 → YR X.K (D :: hid) ρ1 H1 xs i H2 v H3 → tG X.K tg v (L2.wipe σ own) H3 fun σ2 H4 => L2.wipe σ2 own = L2.wipe σ own ∧
      tE X.K c ek σ2 H4 fun y H5 => tE X.K c ev σ2 H5 fun z H6 => ∃ H7, DPut H6 D y z H7 ∧ Pv (i + 1) H7 := by
    intro i v H2 H3 hi p y
    obtain ⟨ρ2, S2, acc, u, hD2, racc, hs2, e2, hcl, hal⟩ := p
    obtain ⟨x, hx, e3, hs3, st, rx⟩ := y ρ2 S2 e2 hs2
    have hd : xs.drop i = x :: xs.drop (i + 1) := by
      rw [List.drop_eq_getElem_cons hi]
      rw [List.getElem?_eq_getElem hi] at hx
      cases hx
      rfl
    rw [hd, dcompLoop] at hcl
    cases hb : bindT tg x (QE.wipe env own) with
    | none => rw [hb] at hcl; cases hcl
    | some env' =>
      rw [hb] at hcl
      obtain ⟨k, S3, qk, hcl⟩ := bind_ok hcl
      obtain ⟨z, S4, qe, hcl⟩ := bind_ok hcl
      split at hcl
      · rename_i hkey
        have dn : D ∉ ρ2 := fun z => hs2.apart D z (by simp)
        have hE3 : ERep X.K (D :: hid) ρ2 H3 (QE.wipe env own) (L2.wipe σ own) := ((((hE.mono e1).hide0 hD).mono e2).mono e3).wipe own
        refine ⟨D :: hid, ρ2, QE.wipe env own, S2, x, env', hE3, hs3, rx, hb, fun σ' hE' hw => ⟨by rw [hw own hown, wipe_wipe], D :: hid, ρ2, env', S2, hE', hs3, ?_⟩⟩
        rw [qk]
        intro ρ5 H5 e5 s5 kv rk frk
        have dn5 : D ∉ ρ5 := fun z => s5.apart D z (by simp)
        refine ⟨D :: hid, ρ5, env', S3, hE'.mono e5, s5, ?_⟩
        rw [qe]
        intro ρ6 H6 e6 s6 zv rz frz
        have hD6 : H6 D = some u := e6.keep0 _ _ (e5.keep0 _ _ (e3.keep0 _ _ hD2 dn racc.kind.1) dn racc.kind.1) dn5 racc.kind.1
        obtain ⟨u', dp, dr, nt⟩ := (DRep.mono ((e3.trans e5).trans e6) racc).put hD6 (by omega) hkey (Rep.mono e6 _ _ rk) ⟨st_settle z, rz.settle⟩
        have := dPut_len k z.settle acc
        exact ⟨_, dp, ρ6, S4, _, u', upd_same, dr, s6.over hD6 nt racc.kind.2 dr.kind.1, (((e2.trans e3).trans e5).trans e6).over hD, hcl, by omega⟩
      · cases hcl
  have start : Pv 0 (upd H1 D (emptyOf t)) := ⟨ρ1, S1, [], emptyOf t, upd_same, by cases t <;> exact ⟨[], rfl, by simp [RepT, RepK]⟩, s1.hide hD (by cases t <;> (intro _ z; cases z)), Ext.new hD, by simpa using q2, Nat.le_refl _⟩
  have fin : ∀ H2, Pv xs.length H2 → Q (.ref D) H2 := by
    intro H2 p
    obtain ⟨ρ2, S2, acc, u, hD2, racc, hs2, e2, hcl, hal⟩ := p
    rw [List.drop_length, dcompLoop] at hcl
    cases hcl
    have h9 := hk2 ρ2 H2 e2
    rw [if_pos hlim] at h9
    have dn : D ∉ ρ2 := fun z => hs2.apart D z (by simp)
    have dh : D ∉ hid := s1.new2 hD
    cases t with
    | true =>
      obtain ⟨ws, eu, r⟩ := racc
      subst eu
      refine h9.pure hs2.seen (.ref D) ?_ ⟨D, rfl, e1.free (.of hD), hs2.take dh ⟨ws, hD2, r⟩⟩
      simp only [Rep]
      exact ⟨D, ws, rfl, hD2, dn, dh, RepT.seen _ _ r⟩
    | false =>
      obtain ⟨ws, eu, r⟩ := racc
      subst eu
      refine h9.pure hs2.seen (.ref D) ?_ ⟨D, rfl, e1.free (.of hD), hs2.take dh ⟨ws, hD2, r⟩⟩
      simp only [Rep]
      exact ⟨D, ws, rfl, hD2, dn, dh, RepK.seen _ _ r⟩
  refine ⟨fun i m H => m = xs.length - i ∧ i ≤ xs.length ∧ Pv i H, ⟨_, rfl, Nat.zero_le _, start⟩, ?_⟩
  rintro i m H2 ⟨rfl, hi, p⟩
  have q0 : ∃ ρ2, Ext ρ1 H1 ρ2 H2 := by obtain ⟨ρ2, _, _, _, _, _, _, e, _⟩ := p; exact ⟨ρ2, e⟩
  by_cases hlt : i < xs.length
  · exact .inr ⟨wk.goes i H2 hlt q0, Pv (i + 1), fun H' p' => ⟨xs.length - (i + 1), by omega, rfl, hlt, p'⟩, fun x H' y => step i x H2 H' hlt p (wk.yields i H2 x H' hlt q0 y)⟩
  · have e : i = xs.length := by omega
    subst e
    exact .inl ⟨wk.stops H2 q0, fin H2 p⟩
theorem s_dcomp {c : Ctx} {pos : Pos} {kx vx tg iter : Expr} {scope : Scope} {own : List (Str × Nat)} {g : T} {src : Src} {t : Bool} {ek ev : E} (hu : X.A.units + 65 < cLine) (hc : X.calm = true) (hN : X.N.Nodup) (hi : PI X tg iter (tI X.K c src)) (ok : BlkOk X.N X.env.scope scope own)
    (hg : ∀ (z : Shared) (G : Hp) (C : Addr) (cl : List (Str × Addr)) (fp : List Addr), PG (X.blk z G scope (compEnvC scope cl C X.env) fp) tg (tG X.K g))
    (hk : ∀ (z : Shared) (G : Hp) (C : Addr) (cl : List (Str × Addr)) (fp : List Addr), PE (X.blk z G scope (compEnvC scope cl C X.env) fp) kx (tE X.K c ek))
    (he : ∀ (z : Shared) (G : Hp) (C : Addr) (cl : List (Str × Addr)) (fp : List Addr), PE (X.blk z G scope (compEnvC scope cl C X.env) fp) vx (tE X.K c ev)) (hf : noSetE iter = true) (hown : ∀ i ∈ tgN g, i ∈ own.map (·.2)) :
    PE X (.DictComp kx vx [⟨tg, iter, [], 0⟩] scope pos) (tE X.K c (.dcomp (own.map (·.2)) g src t ek ev)) :=
  PE.imp (pe_dq (o0 := emptyOf t) (by cases t; exact .inl rfl; exact .inr rfl) (by omega) hc hN hi ok hg hk he (no_fold hf X.env)) fun σ H Q h => dc_read hown h
theorem s_setDcomp {c : Ctx} {W : L2.WX} {i : Nat} {y : Str} {py : Pos} {pos spos : Pos} {kx vx tg iter : Expr} {scope : Scope} {own : List (Str × Nat)} {g : T} {src : Src} {t : Bool} {ek ev e' : E} (rd : ∀ σ H Q, tE X.K c e' σ H Q → tE X.K c (.dcomp (own.map (·.2)) g src t ek ev) σ H Q)
    (hu : X.A.units + 65 < cLine) (hc : X.calm = true) (hN : X.N.Nodup) (hy : X.N[i]? = some y) (hyl : X.env.scope.names.lookup y = some .local) (hsw : swapsWith (.DictComp kx vx [⟨tg, iter, [], 0⟩] scope pos) (some (.Name y py)) spos.line X.env = pure true)
    (hi : PI X tg iter (tI X.K c src)) (ok : BlkOk X.N X.env.scope scope own)
    (hg : ∀ (z : Shared) (G : Hp) (C : Addr) (cl : List (Str × Addr)) (fp : List Addr), PG (X.blk z G scope (compEnvC scope cl C X.env) fp) tg (tG X.K g))
    (hk : ∀ (z : Shared) (G : Hp) (C : Addr) (cl : List (Str × Addr)) (fp : List Addr), PE (X.blk z G scope (compEnvC scope cl C X.env) fp) kx (tE X.K c ek))
    (he : ∀ (z : Shared) (G : Hp) (C : Addr) (cl : List (Str × Addr)) (fp : List Addr), PE (X.blk z G scope (compEnvC scope cl C X.env) fp) vx (tE X.K c ev)) (hf : noSetE iter = true) (hown : ∀ i ∈ tgN g, i ∈ own.map (·.2)) :
    PS X (.Assign [.Name y py] (.DictComp kx vx [⟨tg, iter, [], 0⟩] scope pos) spos) (tS X.K c W (.asg (.name i) e')) :=
  PS.imp (ps_setDq (o0 := emptyOf t) (by cases t; exact .inl rfl; exact .inr rfl) (by omega) hc hN hy hyl hsw hi ok hg hk he (no_fold hf X.env)) fun D σ H h => dc_read hown (rd _ _ _ (set_read h))
end
end QE

set_option Elab.async false
set_option linter.all false
set_option maxRecDepth 10000
set_option maxHeartbeats 1000000
/-! The text beside the evaluator's text: expressions. -/
namespace QE
open PySem PySem.Spec PyProof.Rows L2 LamX L2H
/-- the names of a text: its defs, its constants, the built-ins it uses -/
structure Cf where
  fns : List Str
  cons : List Str
  bis : List Str
  /-- the classes of exceptions that are raised -/
  kls : List Str := []
  /-- the classes that a caught exception is asked for -/
  ecl : List Str := []
  /-- the defs that catch -/
  grds : List Nat := []
  /-- where the def's table of code objects lies, the name of its lambdas -/
  tab : Option (Nat × List Nat) := none
def kd (sc : Scope) (x : Str) : Option NameKind := sc.names.lookup x
def isL (sc : Scope) (x : Str) : Bool := decide (kd sc x = some .local)
def isLoc (sc : Scope) (x : Str) : Bool := decide (kd sc x = some .local) || decide (kd sc x = some .cell)
def isVis (sc : Scope) (x : Str) : Bool := decide (kd sc x = some .local) || (decide (kd sc x = some .cell) || decide (kd sc x = some .free))
def isGl (sc : Scope) (x : Str) : Bool := decide (kd sc x = some .globalImplicit)
/-- not one of the names that Python keeps for itself -/
def plainN (x : Str) : Bool := !(x == ("__debug__" : Str)) && (!(x == ("__classdict__" : Str)) && !decide (x = ("__name__" : Str)))
/-- a built-in's name -/
def isBi (cf : Cf) (sc : Scope) (x : Str) : Bool := isGl sc x && (decide (x ∈ cf.bis) && plainN x)

/-! ### shapes -/
def opIs : BOp → Operator → Bool
  | .add, .Add => true
  | .sub, .Sub => true
  | .mul, .Mult => true
  | .fdiv, .FloorDiv => true
  | .mod, .Mod => true
  | .pow, .Pow => true
  | _, _ => false
theorem opIs_ok {a : BOp} {o : Operator} (h : opIs a o = true) : o = opOf a := by cases a <;> cases o <;> first | rfl | (cases h; done)
def coIs : COp → CmpOp → Bool
  | .eq, .Eq => true
  | .ne, .NotEq => true
  | .lt, .Lt => true
  | .le, .LtE => true
  | .gt, .Gt => true
  | .ge, .GtE => true
  | .in_, .In => true
  | .nin, .NotIn => true
  | .is_, .Is => true
  | .isn, .IsNot => true
  | _, _ => false
theorem coIs_ok {a : COp} {o : CmpOp} (h : coIs a o = true) : o = cmpOf a := by cases a <;> cases o <;> first | rfl | (cases h; done)
/-- the names of a comprehension's block, with their places -/
def ownOf (N : List Str) (scope : Scope) : List (Str × Nat) := scope.names.filterMap fun y => if decide (y.2 = .local) || decide (y.2 = .cell) then (match N.findIdx? (fun z => decide (z = y.1)) with
  | some i => some (y.1, i)
  | none => none) else none
def blkB (N : List Str) (sc scope : Scope) : Bool :=
  decide (scope.kind = .function) && (scope.names.all fun y => decide (scope.names.lookup y.1 = some y.2)) && ((ownOf N scope).all fun p => decide (N[p.2]? = some p.1)) &&
  (scope.names.all fun y => !decide (y.2 = .free) || (decide (kd sc y.1 = some .cell) || decide (kd sc y.1 = some .free))) &&
  (scope.names.all fun y => !(decide (y.2 = .local) || decide (y.2 = .cell)) || (decide (y.1 ∈ (ownOf N scope).map (·.1)) || decide (y.1 ∉ N)))
theorem blk_ok {N : List Str} {sc scope : Scope} (h : blkB N sc scope = true) : BlkOk N sc scope (ownOf N scope) := by
  simp only [blkB, Bool.and_eq_true, List.all_eq_true, decide_eq_true_eq] at h
  obtain ⟨⟨⟨⟨h1, h2⟩, h3⟩, h4⟩, h5⟩ := h
  refine ⟨h1, h2, h3, fun y hy e => ?_, fun y hy e => ?_⟩
  · have := h4 y hy
    simp only [e, decide_true, Bool.not_true, Bool.false_or, Bool.or_eq_true, decide_eq_true_eq] at this
    exact this
  · have := h5 y hy
    rcases e with e | e <;> simpa [e] using this
/-! ### targets, sources, expressions -/
mutual
def mG (N : List Str) (sc : Scope) (fb : Str → Bool) : T → Expr → Bool
  | .name i, .Name x _ => decide (N[i]? = some x) && (isLoc sc x && (fb x || isL sc x))
  | .tup ts, .Tuple es _ _ => es.all plainG && (decide (es.length = ts.length) && mGs N sc fb ts es)
  | _, _ => false
def mGs (N : List Str) (sc : Scope) (fb : Str → Bool) : List T → List Expr → Bool
  | [], [] => true
  | t :: ts, e :: es => mG N sc fb t e && mGs N sc fb ts es
  | _, _ => false
end
def tupE : Expr → Bool
  | .Tuple _ _ _ => true
  | _ => false
mutual
/-- may stand as a test -/
def tst : E → Bool
  | .var _ => true
  | .lit _ => true
  | .con _ => true
  | .cmp _ _ _ => true
  | .chain _ _ _ _ _ => true
  | .and es => tstL es
  | .or es => tstL es
  | .not e => tst e
  | .idx _ _ => true
  | .slice _ _ _ => true
  | .call _ _ => true
  | .bi _ _ => true
  | .isi _ _ => true
  | .meth _ _ _ => true
  | .append _ _ => true
  | _ => false
def tstL : List E → Bool
  | [] => true
  | e :: es => tst e && tstL es
end
/-- no parameters -/
def noPar : Arguments → Bool
  | ⟨[], [], none, [], [], none, []⟩ => true
  | _ => false
mutual
def mE (cf : Cf) (N : List Str) : E → Scope → Expr → Bool
  | .var i, sc, .Name x _ => decide (N[i]? = some x) && (isVis sc x && plainN x)
  | .lit v, _, .Constant k _ _ => constOk v k
  | .con i, sc, .Name x _ => decide (cf.cons[i]? = some x) && (isGl sc x && plainN x)
  | .bin op a b, sc, .BinOp xa o xb _ => opIs op o && (mE cf N a sc xa && mE cf N b sc xb)
  | .neg a, sc, .UnaryOp .USub xa _ => mE cf N a sc xa
  | .cmp op a b, sc, .Compare xa [o] [xb] _ => coIs op o && (noSetE xb && (mE cf N a sc xa && mE cf N b sc xb))
  | .chain o1 o2 a b d, sc, .Compare xa [p1, p2] [xb, xd] _ => (coIs o1 p1 && coIs o2 p2) && (noSetE xd && (mE cf N a sc xa && (mE cf N b sc xb && mE cf N d sc xd)))
  | .and es, sc, .BoolOp .And xs _ => !xs.isEmpty && mEs cf N es sc xs
  | .or es, sc, .BoolOp .Or xs _ => !xs.isEmpty && mEs cf N es sc xs
  | .not a, sc, .UnaryOp .Not xa _ => mE cf N a sc xa
  | .ite t a b, sc, .IfExp xt xa xb _ => tst t && (mE cf N t sc xt && (mE cf N a sc xa && mE cf N b sc xb))
  | .tup es, sc, .Tuple xs _ _ => xs.all plainE && mEs cf N es sc xs
  | .list es, sc, .List xs _ => xs.all plainE && mEs cf N es sc xs
  | .dnew _, _, .Dict [] [] _ => true
  | .idx a i, sc, .Subscript xa xi _ => noSlice xi && (mE cf N a sc xa && mE cf N i sc xi)
  | .slice a lo hi, sc, .Subscript xa (.Slice xl xh none _) _ => mE cf N a sc xa && (mO cf N lo sc xl && mO cf N hi sc xh)
  | .call f es, sc, .Call (.Name x _) xs [] _ => decide (cf.fns[f]? = some x) && (isGl sc x && (plainN x && (xs.all plainE && mEs cf N es sc xs)))
  | .bi b es, sc, .Call (.Name x _) xs [] _ => decide (x = PySem.Str.ofString (biName b)) && (isBi cf sc x && (!xs.isEmpty && (xs.all plainE && mEs cf N es sc xs)))
  | .isi t a, sc, .Call (.Name x _) [xa, .Name y _] [] _ => decide (x = PySem.Str.ofString "isinstance") && (decide (y = PySem.Str.ofString (tyStr t)) && (isBi cf sc x && (isBi cf sc y && (plainE xa && mE cf N a sc xa))))
  | .meth m o a, sc, .Call (.Attribute xo nm ap) [xa] [] cp => decide (nm = PySem.Str.ofString (meName m)) && (plainE xa && (plainO xo && ((ap.endLine == cp.line) && (mE cf N o sc xo && mE cf N a sc xa))))
  | .append o a, sc, .Call (.Attribute xo nm ap) [xa] [] cp => decide (nm = PySem.Str.ofString "append") && (plainE xa && (plainO xo && ((ap.endLine == cp.line) && (mE cf N o sc xo && mE cf N a sc xa))))
  | .comp own tg src ifs elt, sc, .ListComp xe [⟨xt, xi, xifs, isa⟩] scope _ => decide (isa = 0) && (decide (own = (ownOf N scope).map (·.2)) && (blkB N sc scope && (noSetE xi && ((tgN tg).all (fun i => decide (i ∈ own)) &&
      (mSrc cf N src sc xt xi && (mG N (relS scope sc) (fun x => scope.names.lookup x == some .cell) tg xt && (mIfs cf N ifs (relS scope sc) xifs && mE cf N elt (relS scope sc) xe)))))))
  | .dcomp own tg src _ k v, sc, .DictComp xk xv [⟨xt, xi, [], isa⟩] scope _ => decide (isa = 0) && (decide (own = (ownOf N scope).map (·.2)) && (blkB N sc scope && (noSetE xi && ((tgN tg).all (fun i => decide (i ∈ own)) &&
      (mSrc cf N src sc xt xi && (mG N (relS scope sc) (fun x => scope.names.lookup x == some .cell) tg xt && (mE cf N k (relS scope sc) xk && mE cf N v (relS scope sc) xv)))))))
  | .d1 false k v, sc, .Dict [some xk] [xv] _ => mE cf N k sc xk && mE cf N v sc xv
  | .get d k v, sc, .Call (.Attribute xo nm ap) [xk, xv] [] cp => decide (nm = PySem.Str.ofString "get") && (plainE xk && (plainE xv && (plainO xo && ((ap.endLine == cp.line) && (mE cf N d sc xo && (mE cf N k sc xk && mE cf N v sc xv))))))
  | .trng a b, sc, .Call (.Name x _) [.Call (.Name y _) [xa, xb] [] _] [] _ => decide (x = PySem.Str.ofString "tuple") && (decide (y = PySem.Str.ofString "range") && (isBi cf sc x && (isBi cf sc y && (plainE xa && (plainE xb && (mE cf N a sc xa && mE cf N b sc xb))))))
  | .fn f, sc, .Name x _ => decide (cf.fns[f]? = some x) && (isGl sc x && plainN x)
  | .callV i es, sc, .Call (.Name x _) xs [] _ => decide (N[i]? = some x) && (isVis sc x && (plainN x && (!xs.isEmpty && (xs.all plainE && mEs cf N es sc xs))))
  | .guard g _ p q eb, sc, .Call (.Name x _) [.Lambda params body scope _] [] _ => decide (cf.tab = some (p, q)) && (decide (g ∈ cf.grds) && (decide (cf.fns[g]? = some x) && (isGl sc x && (plainN x && (noPar params && (lamSB sc scope && mX { cf with tab := none } N eb scope body))))))
  | .cell e, sc, x => mE cf N e sc x
  | _, _, _ => false
/-- a call that may raise -/
def mX (cf : Cf) (N : List Str) : E → Scope → Expr → Bool
  | .call f es, sc, .Call (.Name x _) xs [] _ => decide (cf.fns[f]? = some x) && (isGl sc x && (plainN x && (!xs.isEmpty && (xs.all plainE && mEs cf N es sc xs))))
  | .callV i es, sc, .Call (.Name x _) xs [] _ => decide (N[i]? = some x) && (isVis sc x && (plainN x && (!xs.isEmpty && (xs.all plainE && mEs cf N es sc xs))))
  | _, _, _ => false
def mEs (cf : Cf) (N : List Str) : List E → Scope → List Expr → Bool
  | [], _, [] => true
  | e :: es, sc, x :: xs => mE cf N e sc x && mEs cf N es sc xs
  | _, _, _ => false
def mO (cf : Cf) (N : List Str) : Option E → Scope → Option Expr → Bool
  | none, _, none => true
  | some e, sc, some x => mE cf N e sc x
  | _, _, _ => false
def mIfs (cf : Cf) (N : List Str) : List E → Scope → List Expr → Bool
  | [], _, [] => true
  | [e], sc, [x] => tst e && mE cf N e sc x
  | _, _, _ => false
def mSrc (cf : Cf) (N : List Str) : Src → Scope → Expr → Expr → Bool
  | .it e, sc, _, x => mE cf N e sc x
  | .rng1 a, sc, _, .Call (.Name x _) [xa] [] _ => decide (x = PySem.Str.ofString "range") && (isBi cf sc x && (plainE xa && mE cf N a sc xa))
  | .rng2 a b, sc, _, .Call (.Name x _) [xa, xb] [] _ => decide (x = PySem.Str.ofString "range") && (isBi cf sc x && (plainE xa && (plainE xb && (mE cf N a sc xa && mE cf N b sc xb))))
  | .enum a, sc, xt, .Call (.Name x _) [xa] [] _ => decide (x = PySem.Str.ofString "enumerate") && (tupE xt && (isBi cf sc x && (plainE xa && mE cf N a sc xa)))
  | .zip a b, sc, xt, .Call (.Name x _) [xa, xb] [] _ => decide (x = PySem.Str.ofString "zip") && (tupE xt && (isBi cf sc x && (plainE xa && (plainE xb && (mE cf N a sc xa && mE cf N b sc xb)))))
  | _, _, _, _ => false
end
/-- a def that catches, as it is called from X -/
structure GuardAt (X : Cx) (c : Ctx) (g : Nat) (x : Str) : Prop where
  ex : ∃ (ga : Addr) (oc : Value) (od : Option Addr) (pg : Arguments) (bg : List Stmt) (sg : Scope) (dV kV doc pm : Value) (an : Option Addr) (cdv ct : Value) (osl : Array (Option Value)) (Ng : List Str) (a : Str),
    (X.mg x = some (.ref ga) ∧ PySem.W.keepIn X.K (.ref ga) = true ∧ X.K.lookup ga = some ⟨oc, od, .func (PySem.W.fnOf x x pg bg sg dV kV doc pm an cdv ct), osl⟩ ∧ PySem.W.codeIn X.K cdv x = true) ∧
    (L2.Binds X.K (PySem.W.fnOf x x pg bg sg dV kV doc pm an cdv ct) [a] [] ∧ FnScope Ng [a] sg ∧ Ng[0]? = some a ∧ Vis sg a) ∧ Gives X c g Ng x sg ga cdv bg a ∧ plainN a = true
  okSt : ∀ v, c.gok g = some v → v.st = true
  gxSt : ∀ k v, c.gx g k = some v → v.st = true
/-- what holds wherever the text's defs run -/
structure Okx (X : Cx) (cf : Cf) (c : Ctx) (lv : Nat) : Prop where
  calm : X.calm = true
  nd : X.N.Nodup
  un : X.A.units + 65 < cLine
  room : Room lv X.A
  fns : ∀ (f : Nat) (x : Str), cf.fns[f]? = some x → ∃ fa fd ps, FnOk X.prog X.w X.K X.mg X.base (L2N.CX X.prog X.w) lv fa fd ps (spF X.K c.cls c.call f) ∧ X.mg x = some (.ref fa) ∧ PySem.W.keepIn X.K (.ref fa) = true ∧ Binds X.K fd ps []
  cons : ∀ (i : Nat) (x : Str), cf.cons[i]? = some x → ∃ u, X.mg x = some u ∧ ∀ v, c.con i = some v → flatIs v u
  bis : ∀ x, x ∈ cf.bis → X.mg x = none
  adr : ∀ (f a : Nat), c.adr f = some a → ∃ x, cf.fns[f]? = some x ∧ X.mg x = some (.ref a)
  rais : ∀ (k : Nat) (x : Str), cf.kls[k]? = some x → ∃ C, X.mg x = some (.ref C) ∧ c.cls k = some C ∧ Rais X.K C
  lam : ∀ p q, cf.tab = some (p, q) → Room (lv + 2) X.A ∧ (∃ cc, X.env.code = .ref cc ∧ TabB X.base X.mg cc p) ∧ X.env.qual ++ "<lambda>" = strOf q
  grd : ∀ g x, cf.tab.isSome = true → g ∈ cf.grds → cf.fns[g]? = some x → GuardAt X c g x
theorem Okx.blk {X : Cx} {cf : Cf} {c : Ctx} {lv : Nat} (h : Okx X cf c lv) (s : Shared) (H : Hp) (scope : Scope) (C : Addr) (cl : List (Str × Addr)) (fp : List Addr) : Okx (X.blk s H scope (compEnvC scope cl C X.env) fp) cf c lv := by
  refine ⟨h.calm, h.nd, h.un, h.room, h.fns, h.cons, h.bis, h.adr, fun k x q => ?_, fun p q e => ?_, fun g x e m q => ?_⟩
  · exact h.rais k x q
  · exact h.lam p q e
  · obtain ⟨ex, a, b⟩ := h.grd g x e m q
    exact ⟨ex, a, b⟩
theorem Okx.Fns {X : Cx} {cf : Cf} {c : Ctx} {lv : Nat} (h : Okx X cf c lv) : QE.Fns X c := fun f a e => by
  obtain ⟨x, h1, h2⟩ := h.adr f a e
  obtain ⟨fa, fd, ps, F, hm, hk, hb⟩ := h.fns f x h1
  rw [h2] at hm
  cases hm
  exact ⟨lv, fd, ps, F, h.room, hk, hb⟩
/-- in the lambda's body -/
theorem Okx.lamQ {X : Cx} {cf : Cf} {c : Ctx} {lv : Nat} (h : Okx X cf c lv) {A : Around} {outer : List PySem.Env} {s : Shared} {H : Hp} {Z : XK} {scope : Scope} {f c' : Addr} (hr : Room lv (A.deeper (lamEnv X scope s.heap.objs.size f c'))) :
    Okx (QE.lamQ X A outer s H Z scope f c') { cf with tab := none } c lv := by
  refine ⟨rfl, h.nd, ?_, hr, h.fns, h.cons, h.bis, h.adr, fun k x q => ?_, fun p q e => by (cases e), fun g x e _ _ => by (cases e)⟩
  · have := hr.un
    show (A.deeper _).units + 65 < cLine
    omega
  · exact h.rais k x q
end QE

set_option Elab.async false
set_option linter.all false
set_option maxRecDepth 10000
set_option maxHeartbeats 1000000
/-! What the check says, shape by shape. -/
namespace QE
open PySem PySem.Spec PyProof.Rows L2 LamX L2H
theorem inv_var {cf : Cf} {N : List Str} {i : Nat} {sc : Scope} {x : Expr} (h : mE cf N (.var i) sc x = true) : ∃ y p, x = .Name y p ∧ N[i]? = some y ∧ isVis sc y = true ∧ plainN y = true := by
  unfold mE at h
  split at h <;> first | (cases h; done) | (rename_i heq; cases heq; done) | skip
  rename_i heq
  cases heq
  try simp only [Bool.and_eq_true, decide_eq_true_eq, Bool.not_eq_true'] at h
  exact ⟨_, _, rfl, h⟩
theorem inv_lit {cf : Cf} {N : List Str} {v : Val} {sc : Scope} {x : Expr} (h : mE cf N (.lit v) sc x = true) : ∃ k j p, x = .Constant k j p ∧ constOk v k = true := by
  unfold mE at h
  split at h <;> first | (cases h; done) | (rename_i heq; cases heq; done) | skip
  rename_i heq
  cases heq
  try simp only [Bool.and_eq_true, decide_eq_true_eq, Bool.not_eq_true'] at h
  exact ⟨_, _, _, rfl, h⟩
theorem inv_con {cf : Cf} {N : List Str} {i : Nat} {sc : Scope} {x : Expr} (h : mE cf N (.con i) sc x = true) : ∃ y p, x = .Name y p ∧ cf.cons[i]? = some y ∧ isGl sc y = true ∧ plainN y = true := by
  unfold mE at h
  split at h <;> first | (cases h; done) | (rename_i heq; cases heq; done) | skip
  rename_i heq
  cases heq
  try simp only [Bool.and_eq_true, decide_eq_true_eq, Bool.not_eq_true'] at h
  exact ⟨_, _, rfl, h⟩
theorem inv_bin {cf : Cf} {N : List Str} {op : BOp} {a b : E} {sc : Scope} {x : Expr} (h : mE cf N (.bin op a b) sc x = true) : ∃ xa o xb p, x = .BinOp xa o xb p ∧ opIs op o = true ∧ mE cf N a sc xa = true ∧ mE cf N b sc xb = true := by
  unfold mE at h
  split at h <;> first | (cases h; done) | (rename_i heq; cases heq; done) | skip
  rename_i heq
  cases heq
  try simp only [Bool.and_eq_true, decide_eq_true_eq, Bool.not_eq_true'] at h
  exact ⟨_, _, _, _, rfl, h⟩
theorem inv_neg {cf : Cf} {N : List Str} {a : E} {sc : Scope} {x : Expr} (h : mE cf N (.neg a) sc x = true) : ∃ xa p, x = .UnaryOp .USub xa p ∧ mE cf N a sc xa = true := by
  unfold mE at h
  split at h <;> first | (cases h; done) | (rename_i heq; cases heq; done) | skip
  rename_i heq
  cases heq
  try simp only [Bool.and_eq_true, decide_eq_true_eq, Bool.not_eq_true'] at h
  exact ⟨_, _, rfl, h⟩
theorem inv_cmp {cf : Cf} {N : List Str} {op : COp} {a b : E} {sc : Scope} {x : Expr} (h : mE cf N (.cmp op a b) sc x = true) : ∃ xa o xb p, x = .Compare xa [o] [xb] p ∧ coIs op o = true ∧ noSetE xb = true ∧ mE cf N a sc xa = true ∧ mE cf N b sc xb = true := by
  unfold mE at h
  split at h <;> first | (cases h; done) | (rename_i heq; cases heq; done) | skip
  rename_i heq
  cases heq
  try simp only [Bool.and_eq_true, decide_eq_true_eq, Bool.not_eq_true'] at h
  exact ⟨_, _, _, _, rfl, h⟩
theorem inv_chain {cf : Cf} {N : List Str} {o1 o2 : COp} {a b d : E} {sc : Scope} {x : Expr} (h : mE cf N (.chain o1 o2 a b d) sc x = true) : ∃ xa p1 p2 xb xd p, x = .Compare xa [p1, p2] [xb, xd] p ∧ (coIs o1 p1 = true ∧ coIs o2 p2 = true) ∧ noSetE xd = true ∧ mE cf N a sc xa = true ∧ mE cf N b sc xb = true ∧ mE cf N d sc xd = true := by
  unfold mE at h
  split at h <;> first | (cases h; done) | (rename_i heq; cases heq; done) | skip
  rename_i heq
  cases heq
  try simp only [Bool.and_eq_true, decide_eq_true_eq, Bool.not_eq_true'] at h
  exact ⟨_, _, _, _, _, _, rfl, h⟩
theorem inv_and {cf : Cf} {N : List Str} {es : List E} {sc : Scope} {x : Expr} (h : mE cf N (.and es) sc x = true) : ∃ xs p, x = .BoolOp .And xs p ∧ xs.isEmpty = false ∧ mEs cf N es sc xs = true := by
  unfold mE at h
  split at h <;> first | (cases h; done) | (rename_i heq; cases heq; done) | skip
  rename_i heq
  cases heq
  try simp only [Bool.and_eq_true, decide_eq_true_eq, Bool.not_eq_true'] at h
  exact ⟨_, _, rfl, h⟩
theorem inv_or {cf : Cf} {N : List Str} {es : List E} {sc : Scope} {x : Expr} (h : mE cf N (.or es) sc x = true) : ∃ xs p, x = .BoolOp .Or xs p ∧ xs.isEmpty = false ∧ mEs cf N es sc xs = true := by
  unfold mE at h
  split at h <;> first | (cases h; done) | (rename_i heq; cases heq; done) | skip
  rename_i heq
  cases heq
  try simp only [Bool.and_eq_true, decide_eq_true_eq, Bool.not_eq_true'] at h
  exact ⟨_, _, rfl, h⟩
theorem inv_not {cf : Cf} {N : List Str} {a : E} {sc : Scope} {x : Expr} (h : mE cf N (.not a) sc x = true) : ∃ xa p, x = .UnaryOp .Not xa p ∧ mE cf N a sc xa = true := by
  unfold mE at h
  split at h <;> first | (cases h; done) | (rename_i heq; cases heq; done) | skip
  rename_i heq
  cases heq
  try simp only [Bool.and_eq_true, decide_eq_true_eq, Bool.not_eq_true'] at h
  exact ⟨_, _, rfl, h⟩
theorem inv_ite {cf : Cf} {N : List Str} {t a b : E} {sc : Scope} {x : Expr} (h : mE cf N (.ite t a b) sc x = true) : ∃ xt xa xb p, x = .IfExp xt xa xb p ∧ tst t = true ∧ mE cf N t sc xt = true ∧ mE cf N a sc xa = true ∧ mE cf N b sc xb = true := by
  unfold mE at h
  split at h <;> first | (cases h; done) | (rename_i heq; cases heq; done) | skip
  rename_i heq
  cases heq
  try simp only [Bool.and_eq_true, decide_eq_true_eq, Bool.not_eq_true'] at h
  exact ⟨_, _, _, _, rfl, h⟩
theorem inv_tup {cf : Cf} {N : List Str} {es : List E} {sc : Scope} {x : Expr} (h : mE cf N (.tup es) sc x = true) : ∃ xs k p, x = .Tuple xs k p ∧ xs.all plainE = true ∧ mEs cf N es sc xs = true := by
  unfold mE at h
  split at h <;> first | (cases h; done) | (rename_i heq; cases heq; done) | skip
  rename_i heq
  cases heq
  try simp only [Bool.and_eq_true, decide_eq_true_eq, Bool.not_eq_true'] at h
  exact ⟨_, _, _, rfl, h⟩
theorem inv_list {cf : Cf} {N : List Str} {es : List E} {sc : Scope} {x : Expr} (h : mE cf N (.list es) sc x = true) : ∃ xs p, x = .List xs p ∧ xs.all plainE = true ∧ mEs cf N es sc xs = true := by
  unfold mE at h
  split at h <;> first | (cases h; done) | (rename_i heq; cases heq; done) | skip
  rename_i heq
  cases heq
  try simp only [Bool.and_eq_true, decide_eq_true_eq, Bool.not_eq_true'] at h
  exact ⟨_, _, rfl, h⟩
theorem inv_dnew {cf : Cf} {N : List Str} {t : Bool} {sc : Scope} {x : Expr} (h : mE cf N (.dnew t) sc x = true) : ∃ p, x = .Dict [] [] p := by
  unfold mE at h
  split at h <;> first | (cases h; done) | (rename_i heq; cases heq; done) | skip
  rename_i heq
  cases heq
  try simp only [Bool.and_eq_true, decide_eq_true_eq, Bool.not_eq_true'] at h
  exact ⟨_, rfl⟩
theorem inv_idx {cf : Cf} {N : List Str} {a i : E} {sc : Scope} {x : Expr} (h : mE cf N (.idx a i) sc x = true) : ∃ xa xi p, x = .Subscript xa xi p ∧ noSlice xi = true ∧ mE cf N a sc xa = true ∧ mE cf N i sc xi = true := by
  unfold mE at h
  split at h <;> first | (cases h; done) | (rename_i heq; cases heq; done) | skip
  rename_i heq
  cases heq
  try simp only [Bool.and_eq_true, decide_eq_true_eq, Bool.not_eq_true'] at h
  exact ⟨_, _, _, rfl, h⟩
theorem inv_slice {cf : Cf} {N : List Str} {a : E} {lo hi : Option E} {sc : Scope} {x : Expr} (h : mE cf N (.slice a lo hi) sc x = true) : ∃ xa xl xh p2 p, x = .Subscript xa (.Slice xl xh none p2) p ∧ mE cf N a sc xa = true ∧ mO cf N lo sc xl = true ∧ mO cf N hi sc xh = true := by
  unfold mE at h
  split at h <;> first | (cases h; done) | (rename_i heq; cases heq; done) | skip
  rename_i heq
  cases heq
  try simp only [Bool.and_eq_true, decide_eq_true_eq, Bool.not_eq_true'] at h
  exact ⟨_, _, _, _, _, rfl, h⟩
theorem inv_call {cf : Cf} {N : List Str} {f : Nat} {es : List E} {sc : Scope} {x : Expr} (h : mE cf N (.call f es) sc x = true) : ∃ y q xs p, x = .Call (.Name y q) xs [] p ∧ cf.fns[f]? = some y ∧ isGl sc y = true ∧ plainN y = true ∧ xs.all plainE = true ∧ mEs cf N es sc xs = true := by
  unfold mE at h
  split at h <;> first | (cases h; done) | (rename_i heq; cases heq; done) | skip
  rename_i heq
  cases heq
  try simp only [Bool.and_eq_true, decide_eq_true_eq, Bool.not_eq_true'] at h
  exact ⟨_, _, _, _, rfl, h⟩
theorem inv_bi {cf : Cf} {N : List Str} {b : Bi} {es : List E} {sc : Scope} {x : Expr} (h : mE cf N (.bi b es) sc x = true) : ∃ y q xs p, x = .Call (.Name y q) xs [] p ∧ y = PySem.Str.ofString (biName b) ∧ isBi cf sc y = true ∧ xs.isEmpty = false ∧ xs.all plainE = true ∧ mEs cf N es sc xs = true := by
  unfold mE at h
  split at h <;> first | (cases h; done) | (rename_i heq; cases heq; done) | skip
  rename_i heq
  cases heq
  try simp only [Bool.and_eq_true, decide_eq_true_eq, Bool.not_eq_true'] at h
  exact ⟨_, _, _, _, rfl, h⟩
theorem inv_isi {cf : Cf} {N : List Str} {t : Ty} {a : E} {sc : Scope} {x : Expr} (h : mE cf N (.isi t a) sc x = true) : ∃ y q xa z q2 p, x = .Call (.Name y q) [xa, .Name z q2] [] p ∧ y = PySem.Str.ofString "isinstance" ∧ z = PySem.Str.ofString (tyStr t) ∧ isBi cf sc y = true ∧ isBi cf sc z = true ∧ plainE xa = true ∧ mE cf N a sc xa = true := by
  unfold mE at h
  split at h <;> first | (cases h; done) | (rename_i heq; cases heq; done) | skip
  rename_i heq
  cases heq
  try simp only [Bool.and_eq_true, decide_eq_true_eq, Bool.not_eq_true'] at h
  exact ⟨_, _, _, _, _, _, rfl, h⟩
theorem inv_meth {cf : Cf} {N : List Str} {m : Me} {o a : E} {sc : Scope} {x : Expr} (h : mE cf N (.meth m o a) sc x = true) : ∃ xo nm ap xa cp, x = .Call (.Attribute xo nm ap) [xa] [] cp ∧ nm = PySem.Str.ofString (meName m) ∧ plainE xa = true ∧ plainO xo = true ∧ (ap.endLine == cp.line) = true ∧ mE cf N o sc xo = true ∧ mE cf N a sc xa = true := by
  unfold mE at h
  split at h <;> first | (cases h; done) | (rename_i heq; cases heq; done) | skip
  rename_i heq
  cases heq
  try simp only [Bool.and_eq_true, decide_eq_true_eq, Bool.not_eq_true'] at h
  exact ⟨_, _, _, _, _, rfl, h⟩
theorem inv_append {cf : Cf} {N : List Str} {o a : E} {sc : Scope} {x : Expr} (h : mE cf N (.append o a) sc x = true) : ∃ xo nm ap xa cp, x = .Call (.Attribute xo nm ap) [xa] [] cp ∧ nm = PySem.Str.ofString "append" ∧ plainE xa = true ∧ plainO xo = true ∧ (ap.endLine == cp.line) = true ∧ mE cf N o sc xo = true ∧ mE cf N a sc xa = true := by
  unfold mE at h
  split at h <;> first | (cases h; done) | (rename_i heq; cases heq; done) | skip
  rename_i heq
  cases heq
  try simp only [Bool.and_eq_true, decide_eq_true_eq, Bool.not_eq_true'] at h
  exact ⟨_, _, _, _, _, rfl, h⟩
theorem inv_comp {cf : Cf} {N : List Str} {own : List Nat} {tg : T} {src : Src} {ifs : List E} {elt : E} {sc : Scope} {x : Expr} (h : mE cf N (.comp own tg src ifs elt) sc x = true) : ∃ xe xt xi xifs isa scope p, x = .ListComp xe [⟨xt, xi, xifs, isa⟩] scope p ∧ isa = 0 ∧ own = (ownOf N scope).map (·.2) ∧ blkB N sc scope = true ∧ noSetE xi = true ∧ (tgN tg).all (fun i => decide (i ∈ own)) = true ∧ mSrc cf N src sc xt xi = true ∧ mG N (relS scope sc) (fun x => scope.names.lookup x == some .cell) tg xt = true ∧ mIfs cf N ifs (relS scope sc) xifs = true ∧ mE cf N elt (relS scope sc) xe = true := by
  unfold mE at h
  split at h <;> first | (cases h; done) | (rename_i heq; cases heq; done) | skip
  rename_i heq
  cases heq
  try simp only [Bool.and_eq_true, decide_eq_true_eq, Bool.not_eq_true'] at h
  exact ⟨_, _, _, _, _, _, _, rfl, h⟩
theorem inv_dcomp {cf : Cf} {N : List Str} {own : List Nat} {tg : T} {src : Src} {t : Bool} {k v : E} {sc : Scope} {x : Expr} (h : mE cf N (.dcomp own tg src t k v) sc x = true) : ∃ xk xv xt xi isa scope p, x = .DictComp xk xv [⟨xt, xi, [], isa⟩] scope p ∧ isa = 0 ∧ own = (ownOf N scope).map (·.2) ∧ blkB N sc scope = true ∧ noSetE xi = true ∧ (tgN tg).all (fun i => decide (i ∈ own)) = true ∧ mSrc cf N src sc xt xi = true ∧ mG N (relS scope sc) (fun x => scope.names.lookup x == some .cell) tg xt = true ∧ mE cf N k (relS scope sc) xk = true ∧ mE cf N v (relS scope sc) xv = true := by
  unfold mE at h
  split at h <;> first | (cases h; done) | (rename_i heq; cases heq; done) | skip
  rename_i heq
  cases heq
  try simp only [Bool.and_eq_true, decide_eq_true_eq, Bool.not_eq_true'] at h
  exact ⟨_, _, _, _, _, _, _, rfl, h⟩
theorem inv_d1 {cf : Cf} {N : List Str} {t : Bool} {k v : E} {sc : Scope} {x : Expr} (h : mE cf N (.d1 t k v) sc x = true) : ∃ xk xv p, x = .Dict [some xk] [xv] p ∧ t = false ∧ mE cf N k sc xk = true ∧ mE cf N v sc xv = true := by
  cases t with
  | true => simp [mE] at h
  | false =>
    unfold mE at h
    split at h <;> first | (cases h; done) | (rename_i heq; cases heq; done) | skip
    rename_i heq
    cases heq
    try simp only [Bool.and_eq_true] at h
    exact ⟨_, _, _, rfl, rfl, h⟩
theorem inv_get {cf : Cf} {N : List Str} {d k v : E} {sc : Scope} {x : Expr} (h : mE cf N (.get d k v) sc x = true) : ∃ xo nm ap xk xv cp, x = .Call (.Attribute xo nm ap) [xk, xv] [] cp ∧ nm = PySem.Str.ofString "get" ∧ plainE xk = true ∧ plainE xv = true ∧ plainO xo = true ∧ (ap.endLine == cp.line) = true ∧ mE cf N d sc xo = true ∧ mE cf N k sc xk = true ∧ mE cf N v sc xv = true := by
  unfold mE at h
  split at h <;> first | (cases h; done) | (rename_i heq; cases heq; done) | skip
  rename_i heq
  cases heq
  try simp only [Bool.and_eq_true, decide_eq_true_eq, Bool.not_eq_true'] at h
  exact ⟨_, _, _, _, _, _, rfl, h⟩
theorem inv_trng {cf : Cf} {N : List Str} {a b : E} {sc : Scope} {x : Expr} (h : mE cf N (.trng a b) sc x = true) : ∃ y p1 z p2 xa xb p3 p4, x = .Call (.Name y p1) [.Call (.Name z p2) [xa, xb] [] p3] [] p4 ∧ y = PySem.Str.ofString "tuple" ∧ z = PySem.Str.ofString "range" ∧ isBi cf sc y = true ∧ isBi cf sc z = true ∧ plainE xa = true ∧ plainE xb = true ∧ mE cf N a sc xa = true ∧ mE cf N b sc xb = true := by
  unfold mE at h
  split at h <;> first | (cases h; done) | (rename_i heq; cases heq; done) | skip
  rename_i heq
  cases heq
  try simp only [Bool.and_eq_true, decide_eq_true_eq, Bool.not_eq_true'] at h
  exact ⟨_, _, _, _, _, _, _, _, rfl, h⟩
theorem inv_fn {cf : Cf} {N : List Str} {f : Nat} {sc : Scope} {x : Expr} (h : mE cf N (.fn f) sc x = true) : ∃ y p, x = .Name y p ∧ cf.fns[f]? = some y ∧ isGl sc y = true ∧ plainN y = true := by
  unfold mE at h
  split at h <;> first | (cases h; done) | (rename_i heq; cases heq; done) | skip
  rename_i heq
  cases heq
  try simp only [Bool.and_eq_true, decide_eq_true_eq, Bool.not_eq_true'] at h
  exact ⟨_, _, rfl, h⟩
theorem inv_callV {cf : Cf} {N : List Str} {i : Nat} {es : List E} {sc : Scope} {x : Expr} (h : mE cf N (.callV i es) sc x = true) : ∃ y q xs p, x = .Call (.Name y q) xs [] p ∧ N[i]? = some y ∧ isVis sc y = true ∧ plainN y = true ∧ xs.isEmpty = false ∧ xs.all plainE = true ∧ mEs cf N es sc xs = true := by
  unfold mE at h
  split at h <;> first | (cases h; done) | (rename_i heq; cases heq; done) | skip
  rename_i heq
  cases heq
  try simp only [Bool.and_eq_true, decide_eq_true_eq, Bool.not_eq_true'] at h
  exact ⟨_, _, _, _, rfl, h⟩
theorem inv_guard {cf : Cf} {N : List Str} {g j p : Nat} {q : List Nat} {eb : E} {sc : Scope} {x : Expr} (h : mE cf N (.guard g j p q eb) sc x = true) : ∃ y p1 params body scope lp cp, x = .Call (.Name y p1) [.Lambda params body scope lp] [] cp ∧ cf.tab = some (p, q) ∧ g ∈ cf.grds ∧ cf.fns[g]? = some y ∧ isGl sc y = true ∧ plainN y = true ∧ noPar params = true ∧ lamSB sc scope = true ∧ mX { cf with tab := none } N eb scope body = true := by
  unfold mE at h
  split at h <;> first | (cases h; done) | (rename_i heq; cases heq; done) | skip
  rename_i heq
  cases heq
  try simp only [Bool.and_eq_true, decide_eq_true_eq, Bool.not_eq_true'] at h
  exact ⟨_, _, _, _, _, _, _, rfl, h⟩
theorem inv_xcall {cf : Cf} {N : List Str} {f : Nat} {es : List E} {sc : Scope} {x : Expr} (h : mX cf N (.call f es) sc x = true) : ∃ y q xs p, x = .Call (.Name y q) xs [] p ∧ cf.fns[f]? = some y ∧ isGl sc y = true ∧ plainN y = true ∧ xs.isEmpty = false ∧ xs.all plainE = true ∧ mEs cf N es sc xs = true := by
  unfold mX at h
  split at h <;> first | (cases h; done) | (rename_i heq; cases heq; done) | skip
  rename_i heq
  cases heq
  try simp only [Bool.and_eq_true, decide_eq_true_eq, Bool.not_eq_true'] at h
  exact ⟨_, _, _, _, rfl, h⟩
theorem inv_xcallV {cf : Cf} {N : List Str} {i : Nat} {es : List E} {sc : Scope} {x : Expr} (h : mX cf N (.callV i es) sc x = true) : ∃ y q xs p, x = .Call (.Name y q) xs [] p ∧ N[i]? = some y ∧ isVis sc y = true ∧ plainN y = true ∧ xs.isEmpty = false ∧ xs.all plainE = true ∧ mEs cf N es sc xs = true := by
  unfold mX at h
  split at h <;> first | (cases h; done) | (rename_i heq; cases heq; done) | skip
  rename_i heq
  cases heq
  try simp only [Bool.and_eq_true, decide_eq_true_eq, Bool.not_eq_true'] at h
  exact ⟨_, _, _, _, rfl, h⟩
end QE

set_option Elab.async false
set_option linter.all false
set_option maxRecDepth 10000
set_option maxHeartbeats 1000000
/-! The check is sound: expressions. -/
namespace QE
open PySem PySem.Spec PyProof.Rows L2 LamX L2H
theorem vis_ok {X : Cx} {x : Str} (h : isVis X.env.scope x = true) : Vis X.env.scope x := by
  simp only [isVis, Bool.or_eq_true, decide_eq_true_eq] at h
  exact h
theorem loc_ok {X : Cx} {x : Str} (h : isLoc X.env.scope x = true) : L2.Loc X.env.scope x := by
  simp only [isLoc, Bool.or_eq_true, decide_eq_true_eq] at h
  exact h
theorem gl_ok {X : Cx} {x : Str} (h : isGl X.env.scope x = true) : Gl X x := by
  simp only [isGl, decide_eq_true_eq] at h
  exact h
theorem plain1 {x : Str} (h : plainN x = true) : (x == ("__debug__" : Str)) = false := by
  simp only [plainN, Bool.and_eq_true, Bool.not_eq_true', decide_eq_false_iff_not] at h
  exact h.1
theorem plain2 {x : Str} (h : plainN x = true) : (x == ("__classdict__" : Str)) = false := by
  simp only [plainN, Bool.and_eq_true, Bool.not_eq_true', decide_eq_false_iff_not] at h
  exact h.2.1
theorem plain3 {x : Str} (h : plainN x = true) : x ≠ ("__name__" : Str) := by
  simp only [plainN, Bool.and_eq_true, Bool.not_eq_true', decide_eq_false_iff_not] at h
  exact h.2.2
section
variable {X : Cx} {cf : Cf} {c : Ctx} {lv : Nat}
theorem bi_ok (ok : Okx X cf c lv) {x : Str} (h : isBi cf X.env.scope x = true) : Gl X x ∧ X.mg x = none ∧ plainN x = true := by
  simp only [isBi, Bool.and_eq_true, decide_eq_true_eq] at h
  exact ⟨gl_ok h.1, ok.bis x h.2.1, h.2.2⟩
mutual
theorem okG (ok : Okx X cf c lv) {fb : Str → Bool} (hf : ∀ x, fb x = true → X.fn x = true) : ∀ (t : T) (e : Expr), mG X.N X.env.scope fb t e = true → PG X e (tG X.K t)
  | .name i, e, h => by
    unfold mG at h
    split at h <;> first | (cases h; done) | (rename_i heq; cases heq; done) | skip
    rename_i heq
    cases heq
    simp only [Bool.and_eq_true, decide_eq_true_eq, Bool.or_eq_true] at h
    exact g_name ok.nd h.1 (loc_ok h.2.1) (h.2.2.elim (fun z => .inl (hf _ z)) fun z => .inr (by simp only [isL, decide_eq_true_eq] at z; exact z))
  | .tup ts, e, h => by
    unfold mG at h
    split at h <;> first | (cases h; done) | (rename_i heq; cases heq; done) | skip
    rename_i heq
    cases heq
    simp only [Bool.and_eq_true, decide_eq_true_eq] at h
    exact g_tup ok.calm (okGs ok hf ts _ h.2.2) h.1 h.2.1
theorem okGs (ok : Okx X cf c lv) {fb : Str → Bool} (hf : ∀ x, fb x = true → X.fn x = true) : ∀ (ts : List T) (es : List Expr), mGs X.N X.env.scope fb ts es = true → PGs X es (tGs X.K ts)
  | [], [], _ => gs_nil
  | [], _ :: _, h => by simp [mGs] at h
  | _ :: _, [], h => by simp [mGs] at h
  | t :: ts, e :: es, h => by
    simp only [mGs, Bool.and_eq_true] at h
    have hp : plainG e = true := by
      cases e <;> first | rfl | (exfalso; cases t <;> simp [mG] at h)
    exact gs_cons (okG ok hf t e h.1) (okGs ok hf ts es h.2) hp
end
end
theorem tup_shape {x : Expr} (h : tupE x = true) : ∃ es k p, x = .Tuple es k p := by
  cases x <;> simp only [tupE] at h <;> first | (cases h; done) | exact ⟨_, _, _, rfl⟩
mutual
theorem okE : ∀ (e : E) {X : Cx} {cf : Cf} {c : Ctx} {lv : Nat} {x : Expr}, Okx X cf c lv → mE cf X.N e X.env.scope x = true → PE X x (tE X.K c e) ∧ (tst e = true → PT X x (tT X.K c e))
  | .var i, X, cf, c, lv, x, ok, h => by
    obtain ⟨y, p, rfl, h1, h2, h3⟩ := inv_var h
    have := s_var (c := c) (pos := p) h1 (vis_ok h2) (plain1 h3) (plain2 h3)
    exact ⟨this, fun _ => t_val this rfl⟩
  | .lit v, X, cf, c, lv, x, ok, h => by
    obtain ⟨k, j, p, rfl, h1⟩ := inv_lit h
    have := s_lit (X := X) (c := c) (pos := p) (j := j) h1
    exact ⟨this, fun _ => t_val this rfl⟩
  | .con i, X, cf, c, lv, x, ok, h => by
    obtain ⟨y, p, rfl, h1, h2, h3⟩ := inv_con h
    obtain ⟨u, hm, hu⟩ := ok.cons i y h1
    have := s_con (X := X) (c := c) (pos := p) (gl_ok h2) hm hu (plain1 h3)
    exact ⟨this, fun _ => t_val this rfl⟩
  | .bin op a b, X, cf, c, lv, x, ok, h => by
    obtain ⟨xa, o, xb, p, rfl, h1, h2, h3⟩ := inv_bin h
    cases opIs_ok h1
    exact ⟨s_bin (okE a ok h2).1 (okE b ok h3).1, fun z => by cases z⟩
  | .neg a, X, cf, c, lv, x, ok, h => by
    obtain ⟨xa, p, rfl, h1⟩ := inv_neg h
    exact ⟨s_neg (okE a ok h1).1, fun z => by cases z⟩
  | .cmp op a b, X, cf, c, lv, x, ok, h => by
    obtain ⟨xa, o, xb, p, rfl, h1, h2, h3, h4⟩ := inv_cmp h
    cases coIs_ok h1
    exact ⟨s_cmp ok.un (okE a ok h3).1 (okE b ok h4).1 h2, fun _ => t_cmp ok.un (okE a ok h3).1 (okE b ok h4).1 h2⟩
  | .chain o1 o2 a b d, X, cf, c, lv, x, ok, h => by
    obtain ⟨xa, p1, p2, xb, xd, p, rfl, ⟨h1, h1'⟩, h2, h3, h4, h5⟩ := inv_chain h
    cases coIs_ok h1
    cases coIs_ok h1'
    exact ⟨s_chain ok.un (okE a ok h3).1 (okE b ok h4).1 (okE d ok h5).1 h2, fun _ => t_chain ok.un (okE a ok h3).1 (okE b ok h4).1 (okE d ok h5).1 h2⟩
  | .and es, X, cf, c, lv, x, ok, h => by
    obtain ⟨xs, p, rfl, h1, h2⟩ := inv_and h
    have := okAnd es ok p h1 h2
    exact ⟨this.1, fun z => (this.2 (by simpa only [tst] using z)).pt⟩
  | .or es, X, cf, c, lv, x, ok, h => by
    obtain ⟨xs, p, rfl, h1, h2⟩ := inv_or h
    have := okOr es ok p h1 h2
    exact ⟨this.1, fun z => (this.2 (by simpa only [tst] using z)).pt⟩
  | .not a, X, cf, c, lv, x, ok, h => by
    obtain ⟨xa, p, rfl, h1⟩ := inv_not h
    exact ⟨s_not (okE a ok h1).1, fun z => t_not ((okE a ok h1).2 (by simpa only [tst] using z))⟩
  | .ite t a b, X, cf, c, lv, x, ok, h => by
    obtain ⟨xt, xa, xb, p, rfl, h0, h1, h2, h3⟩ := inv_ite h
    exact ⟨s_ite ((okE t ok h1).2 h0) (okE a ok h2).1 (okE b ok h3).1, fun z => by cases z⟩
  | .tup es, X, cf, c, lv, x, ok, h => by
    obtain ⟨xs, k, p, rfl, h1, h2⟩ := inv_tup h
    exact ⟨s_tup (okEs es ok h1 h2), fun z => by cases z⟩
  | .list es, X, cf, c, lv, x, ok, h => by
    obtain ⟨xs, p, rfl, h1, h2⟩ := inv_list h
    exact ⟨s_list (okEs es ok h1 h2), fun z => by cases z⟩
  | .dnew t, X, cf, c, lv, x, ok, h => by
    obtain ⟨p, rfl⟩ := inv_dnew h
    exact ⟨s_dnew, fun z => by cases z⟩
  | .idx a i, X, cf, c, lv, x, ok, h => by
    obtain ⟨xa, xi, p, rfl, h1, h2, h3⟩ := inv_idx h
    have := s_idx (pos := p) ok.un (okE a ok h2).1 (okE i ok h3).1 h1
    exact ⟨this, fun _ => t_val this rfl⟩
  | .slice a lo hi, X, cf, c, lv, x, ok, h => by
    obtain ⟨xa, xl, xh, p2, p, rfl, h1, h2, h3⟩ := inv_slice h
    have := s_slice (pos := p) (p2 := p2) (okE a ok h1).1 (okO lo ok h2) (okO hi ok h3)
    exact ⟨this, fun _ => t_val this rfl⟩
  | .call f es, X, cf, c, lv, x, ok, h => by
    obtain ⟨y, q, xs, p, rfl, h1, h2, h3, h4, h5⟩ := inv_call h
    obtain ⟨fa, fd, ps, F, hm, hk, hb⟩ := ok.fns f y h1
    have hr := ok.room
    have : PE X (.Call (.Name y q) xs [] p) (tE X.K c (.call f es)) := by
      cases xs with
      | nil =>
        cases es with
        | nil => exact s_call0 F hr (gl_ok h2) hm hk hb (plain1 h3)
        | cons _ _ => simp [mEs] at h5
      | cons xa xs => exact s_call F hr (gl_ok h2) hm hk hb (okEs es ok h4 h5) (plain1 h3) h4
    exact ⟨this, fun _ => t_val this rfl⟩
  | .bi b es, X, cf, c, lv, x, ok, h => by
    obtain ⟨y, q, xs, p, rfl, h1, h2, h3, h4, h5⟩ := inv_bi h
    obtain ⟨hg, hm, hn⟩ := bi_ok ok h2
    cases xs with
    | nil => cases h3
    | cons xa xs =>
      have := s_bi (p := q) (pos := p) ok.calm ok.un h1 hg hm (okEs es ok h4 h5) h4 (plain3 hn) (plain1 hn)
      exact ⟨this, fun _ => t_val this rfl⟩
  | .isi t a, X, cf, c, lv, x, ok, h => by
    obtain ⟨y, q, xa, z, q2, p, rfl, h1, h2, h3, h4, h5, h6⟩ := inv_isi h
    obtain ⟨hg, hm, hn⟩ := bi_ok ok h3
    obtain ⟨hg2, hm2, hn2⟩ := bi_ok ok h4
    have := s_isi (p := q) (pos := p) (p2 := q2) h1 h2 hg hm hg2 hm2 (okE a ok h6).1 h5 (plain3 hn) (plain1 hn) (plain3 hn2) (plain1 hn2)
    exact ⟨this, fun _ => t_val this rfl⟩
  | .meth m o a, X, cf, c, lv, x, ok, h => by
    obtain ⟨xo, nm, ap, xa, cp, rfl, h1, h2, h3, h4, h5, h6⟩ := inv_meth h
    have := s_meth ok.un h1 (okE o ok h5).1 (okE a ok h6).1 h2 h3 h4
    exact ⟨this, fun _ => t_val this rfl⟩
  | .append o a, X, cf, c, lv, x, ok, h => by
    obtain ⟨xo, nm, ap, xa, cp, rfl, h1, h2, h3, h4, h5, h6⟩ := inv_append h
    have := s_append (c := c) h1 (okE o ok h5).1 (okE a ok h6).1 h2 h3 h4
    exact ⟨this, fun _ => t_val this rfl⟩
  | .comp own tg src ifs elt, X, cf, c, lv, x, ok, h => by
    obtain ⟨xe, xt, xi, xifs, isa, scope, p, rfl, h1, h2, h3, h4, h5, h6, h7, h8, h9⟩ := inv_comp h
    subst h1 h2
    simp only [List.all_eq_true, decide_eq_true_eq] at h5
    refine ⟨s_comp ok.calm ok.nd (okSrc src ok h6) (blk_ok h3) (fun s H C cl fp => okG (ok.blk s H scope C cl fp) (fun x z => z) tg xt h7) (fun s H C cl fp => okIfs ifs (ok.blk s H scope C cl fp) h8) (fun s H C cl fp => (okE elt (ok.blk s H scope C cl fp) h9).1) h4 h5, fun z => by cases z⟩
  | .dcomp own tg src t k v, X, cf, c, lv, x, ok, h => by
    obtain ⟨xk, xv, xt, xi, isa, scope, p, rfl, h1, h2, h3, h4, h5, h6, h7, h8, h9⟩ := inv_dcomp h
    subst h1 h2
    simp only [List.all_eq_true, decide_eq_true_eq] at h5
    refine ⟨s_dcomp ok.un ok.calm ok.nd (okSrc src ok h6) (blk_ok h3) (fun s H C cl fp => okG (ok.blk s H scope C cl fp) (fun x z => z) tg xt h7) (fun s H C cl fp => (okE k (ok.blk s H scope C cl fp) h8).1) (fun s H C cl fp => (okE v (ok.blk s H scope C cl fp) h9).1) h4 h5, fun z => by cases z⟩
  | .d1 t k v, X, cf, c, lv, x, ok, h => by
    obtain ⟨xk, xv, p, rfl, rfl, h1, h2⟩ := inv_d1 h
    exact ⟨s_d1 (okE k ok h1).1 (okE v ok h2).1, fun z => by cases z⟩
  | .get d k v, X, cf, c, lv, x, ok, h => by
    obtain ⟨xo, nm, ap, xk, xv, cp, rfl, h1, h2, h3, h4, h5, h6, h7, h8⟩ := inv_get h
    exact ⟨s_get ok.un h1 (okE d ok h6).1 (okE k ok h7).1 (okE v ok h8).1 h2 h3 h4 h5, fun z => by cases z⟩
  | .trng a b, X, cf, c, lv, x, ok, h => by
    obtain ⟨y, p1, z, p2, xa, xb, p3, p4, rfl, h1, h2, h3, h4, h5, h6, h7, h8⟩ := inv_trng h
    obtain ⟨hg, hm, hn⟩ := bi_ok ok h3
    obtain ⟨hg2, hm2, hn2⟩ := bi_ok ok h4
    exact ⟨s_trng ok.calm h1 h2 hg hm hg2 hm2 (okE a ok h7).1 (okE b ok h8).1 h5 h6, fun z => by cases z⟩
  | .fn f, X, cf, c, lv, x, ok, h => by
    obtain ⟨y, p, rfl, h1, h2, h3⟩ := inv_fn h
    refine ⟨s_fn (fun a e => ?_) (gl_ok h2) (plain1 h3), fun z => by cases z⟩
    obtain ⟨y', k1, k2⟩ := ok.adr f a e
    rw [h1] at k1
    cases k1
    exact k2
  | .callV i es, X, cf, c, lv, x, ok, h => by
    obtain ⟨y, q, xs, p, rfl, h1, h2, h3, h4, h5, h6⟩ := inv_callV h
    cases xs with
    | nil => cases h4
    | cons xa xs => exact ⟨s_callV ok.Fns h1 (vis_ok h2) (okEs es ok h5 h6) (plain1 h3) (plain2 h3) h5, fun z => by cases z⟩
  | .guard g j P q eb, X, cf, c, lv, x, ok, h => by
    obtain ⟨y, p1, params, body, scope, lp, cp, rfl, h1, h2, h3, h4, h5, h6, h7, h8⟩ := inv_guard h
    obtain ⟨hr2, ⟨cc, hcode, TB⟩, hq⟩ := ok.lam P q h1
    obtain ⟨⟨ga, oc, od, pg, bg, sg, dV, kV, doc, pm, an, cdv, ct, osl, Ng, a, ⟨g1, g2, g3, g4⟩, ⟨g5, g6, g7, g8⟩, g9, g10⟩, e1, e2⟩ := ok.grd g y (by rw [h1]; rfl) h2 h3
    have hpar : params = ⟨[], [], none, [], [], none, []⟩ := by
      unfold noPar at h6
      split at h6
      · rfl
      · cases h6
    subst hpar
    refine ⟨s_guard (gl_ok h4) g1 g2 g3 g4 g5 g6 g7 g8 g9 e1 e2 TB hcode hq hr2 (lamS_by h7) rfl (fun _ _ _ _ _ => rfl) (fun A outer s H Z f c' hr => ?_) (plain1 h5) (plain1 g10) (plain2 g10), fun z => by cases z⟩
    exact okX eb (ok.lamQ (Z := Z) hr) (L2N.passes_call (lamQ_takes (X := X)) (fun _ _ _ _ h => h)) h8
  | .isx _ _, _, _, _, _, _, _, h => by simp [mE] at h
  | .cell e, X, cf, c, lv, x, ok, h => by
    simp only [mE] at h
    exact ⟨s_cell (okE e ok h).1, fun z => by cases z⟩
termination_by structural e => e
theorem okX : ∀ (e : E) {X : Cx} {cf : Cf} {c : Ctx} {lv : Nat} {x : Expr} {Z : XK}, Okx X cf c lv → Passes (L2N.CX X.prog X.w) X Z → mX cf X.N e X.env.scope x = true → PE X x (tX X.K c e Z)
  | .call f es, X, cf, c, lv, x, Z, ok, hx, h => by
    obtain ⟨y, q, xs, p, rfl, h1, h2, h3, h4, h5, h6⟩ := inv_xcall h
    obtain ⟨fa, fd, ps, F, hm, hk, hb⟩ := ok.fns f y h1
    cases xs with
    | nil => cases h4
    | cons xa xs => exact x_call F ok.room (gl_ok h2) hm hk hb hx (okEs es ok h5 h6) (plain1 h3) h5
  | .callV i es, X, cf, c, lv, x, Z, ok, hx, h => by
    obtain ⟨y, q, xs, p, rfl, h1, h2, h3, h4, h5, h6⟩ := inv_xcallV h
    cases xs with
    | nil => cases h4
    | cons xa xs => exact x_callV ok.Fns h1 (vis_ok h2) hx (okEs es ok h5 h6) (plain1 h3) (plain2 h3) h5
  | .var _, _, _, _, _, _, _, _, _, h => by simp [mX] at h
  | .lit _, _, _, _, _, _, _, _, _, h => by simp [mX] at h
  | .con _, _, _, _, _, _, _, _, _, h => by simp [mX] at h
  | .bin _ _ _, _, _, _, _, _, _, _, _, h => by simp [mX] at h
  | .neg _, _, _, _, _, _, _, _, _, h => by simp [mX] at h
  | .cmp _ _ _, _, _, _, _, _, _, _, _, h => by simp [mX] at h
  | .chain _ _ _ _ _, _, _, _, _, _, _, _, _, h => by simp [mX] at h
  | .and _, _, _, _, _, _, _, _, _, h => by simp [mX] at h
  | .or _, _, _, _, _, _, _, _, _, h => by simp [mX] at h
  | .not _, _, _, _, _, _, _, _, _, h => by simp [mX] at h
  | .ite _ _ _, _, _, _, _, _, _, _, _, h => by simp [mX] at h
  | .tup _, _, _, _, _, _, _, _, _, h => by simp [mX] at h
  | .list _, _, _, _, _, _, _, _, _, h => by simp [mX] at h
  | .dnew _, _, _, _, _, _, _, _, _, h => by simp [mX] at h
  | .idx _ _, _, _, _, _, _, _, _, _, h => by simp [mX] at h
  | .slice _ _ _, _, _, _, _, _, _, _, _, h => by simp [mX] at h
  | .bi _ _, _, _, _, _, _, _, _, _, h => by simp [mX] at h
  | .isi _ _, _, _, _, _, _, _, _, _, h => by simp [mX] at h
  | .meth _ _ _, _, _, _, _, _, _, _, _, h => by simp [mX] at h
  | .append _ _, _, _, _, _, _, _, _, _, h => by simp [mX] at h
  | .comp _ _ _ _ _, _, _, _, _, _, _, _, _, h => by simp [mX] at h
  | .dcomp _ _ _ _ _ _, _, _, _, _, _, _, _, _, h => by simp [mX] at h
  | .cell _, _, _, _, _, _, _, _, _, h => by simp [mX] at h
  | .d1 _ _ _, _, _, _, _, _, _, _, _, h => by simp [mX] at h
  | .get _ _ _, _, _, _, _, _, _, _, _, h => by simp [mX] at h
  | .trng _ _, _, _, _, _, _, _, _, _, h => by simp [mX] at h
  | .fn _, _, _, _, _, _, _, _, _, h => by simp [mX] at h
  | .guard _ _ _ _ _, _, _, _, _, _, _, _, _, h => by simp [mX] at h
  | .isx _ _, _, _, _, _, _, _, _, _, h => by simp [mX] at h
termination_by structural e => e
theorem okEs : ∀ (es : List E) {X : Cx} {cf : Cf} {c : Ctx} {lv : Nat} {xs : List Expr}, Okx X cf c lv → xs.all plainE = true → mEs cf X.N es X.env.scope xs = true → PA X xs (tEs X.K c es)
  | [], X, cf, c, lv, xs, ok, hp, h => by
    cases xs with
    | nil => exact a_nil
    | cons _ _ => simp [mEs] at h
  | e :: es, X, cf, c, lv, xs, ok, hp, h => by
    cases xs with
    | nil => simp [mEs] at h
    | cons x xs =>
      simp only [mEs, Bool.and_eq_true] at h
      simp only [List.all_cons, Bool.and_eq_true] at hp
      exact a_cons (okE e ok h.1).1 (okEs es ok hp.2 h.2) hp.1
termination_by structural e => e
theorem okAnd : ∀ (es : List E) {X : Cx} {cf : Cf} {c : Ctx} {lv : Nat} {xs : List Expr} (_ : Okx X cf c lv) (p : Pos), xs.isEmpty = false → mEs cf X.N es X.env.scope xs = true →
    PE X (.BoolOp .And xs p) (tE X.K c (.and es)) ∧ (tstL es = true → PW X (.BoolOp .And xs p) (tT X.K c (.and es)))
  | [], X, cf, c, lv, xs, ok, p, hn, h => by
    cases xs with
    | nil => cases hn
    | cons _ _ => simp [mEs] at h
  | e :: es, X, cf, c, lv, xs, ok, p, hn, h => by
    cases xs with
    | nil => cases hn
    | cons x xs =>
      simp only [mEs, Bool.and_eq_true] at h
      have h1 := okE (c := c) e ok h.1
      cases xs with
      | nil =>
        cases es with
        | nil => exact ⟨s_and1 h1.1, fun z => w_and1 (h1.2 (by simpa [tstL] using z))⟩
        | cons _ _ => simp [mEs] at h
      | cons y ys =>
        cases es with
        | nil => simp [mEs] at h
        | cons e2 es =>
          have h2 := okAnd (c := c) (e2 :: es) ok p (xs := y :: ys) rfl h.2
          refine ⟨s_and h1.1 h2.1, fun z => ?_⟩
          rw [tstL, Bool.and_eq_true] at z
          exact w_and (h1.2 z.1) (h2.2 z.2)
termination_by structural e => e
theorem okOr : ∀ (es : List E) {X : Cx} {cf : Cf} {c : Ctx} {lv : Nat} {xs : List Expr} (_ : Okx X cf c lv) (p : Pos), xs.isEmpty = false → mEs cf X.N es X.env.scope xs = true →
    PE X (.BoolOp .Or xs p) (tE X.K c (.or es)) ∧ (tstL es = true → PW X (.BoolOp .Or xs p) (tT X.K c (.or es)))
  | [], X, cf, c, lv, xs, ok, p, hn, h => by
    cases xs with
    | nil => cases hn
    | cons _ _ => simp [mEs] at h
  | e :: es, X, cf, c, lv, xs, ok, p, hn, h => by
    cases xs with
    | nil => cases hn
    | cons x xs =>
      simp only [mEs, Bool.and_eq_true] at h
      have h1 := okE (c := c) e ok h.1
      cases xs with
      | nil =>
        cases es with
        | nil => exact ⟨s_or1 h1.1, fun z => w_or1 (h1.2 (by simpa [tstL] using z))⟩
        | cons _ _ => simp [mEs] at h
      | cons y ys =>
        cases es with
        | nil => simp [mEs] at h
        | cons e2 es =>
          have h2 := okOr (c := c) (e2 :: es) ok p (xs := y :: ys) rfl h.2
          refine ⟨s_or h1.1 h2.1, fun z => ?_⟩
          rw [tstL, Bool.and_eq_true] at z
          exact w_or (h1.2 z.1) (h2.2 z.2)
termination_by structural e => e
theorem okO : ∀ (o : Option E) {X : Cx} {cf : Cf} {c : Ctx} {lv : Nat} {x : Option Expr}, Okx X cf c lv → mO cf X.N o X.env.scope x = true → PO X x (tO X.K c o)
  | none, X, cf, c, lv, x, ok, h => by
    cases x with
    | none => exact o_none
    | some _ => simp [mO] at h
  | some e, X, cf, c, lv, x, ok, h => by
    cases x with
    | none => simp [mO] at h
    | some x =>
      simp only [mO] at h
      exact o_some (okE e ok h).1
termination_by structural e => e
theorem okIfs : ∀ (es : List E) {X : Cx} {cf : Cf} {c : Ctx} {lv : Nat} {xs : List Expr}, Okx X cf c lv → mIfs cf X.N es X.env.scope xs = true → PTs X xs (tBs (evalAnd c) X.K es)
  | [], X, cf, c, lv, xs, ok, h => by
    cases xs with
    | nil => exact ifs_nil
    | cons _ _ => simp [mIfs] at h
  | [e], X, cf, c, lv, xs, ok, h => by
    match xs, h with
    | [x], h =>
      simp only [mIfs, Bool.and_eq_true] at h
      exact ifs_one ((okE e ok h.2).2 h.1)
    | [], h => simp [mIfs] at h
    | _ :: _ :: _, h => simp [mIfs] at h
  | _ :: _ :: _, X, cf, c, lv, xs, ok, h => by simp [mIfs] at h
termination_by structural e => e
theorem okSrc : ∀ (s : Src) {X : Cx} {cf : Cf} {c : Ctx} {lv : Nat} {xt x : Expr}, Okx X cf c lv → mSrc cf X.N s X.env.scope xt x = true → PI X xt x (tI X.K c s)
  | .it e, X, cf, c, lv, xt, x, ok, h => by
    simp only [mSrc] at h
    exact i_it (okE e ok h).1
  | .rng1 a, X, cf, c, lv, xt, x, ok, h => by
    unfold mSrc at h
    split at h <;> first | (cases h; done) | (rename_i heq; cases heq; done) | skip
    rename_i heq
    cases heq
    simp only [Bool.and_eq_true, decide_eq_true_eq] at h
    obtain ⟨h1, h2, h3, h4⟩ := h
    obtain ⟨hg, hm, hn⟩ := bi_ok ok h2
    exact i_rng1 h1 hg hm (okE a ok h4).1 h3
  | .rng2 a b, X, cf, c, lv, xt, x, ok, h => by
    unfold mSrc at h
    split at h <;> first | (cases h; done) | (rename_i heq; cases heq; done) | skip
    rename_i heq
    cases heq
    simp only [Bool.and_eq_true, decide_eq_true_eq] at h
    obtain ⟨h1, h2, h3, h4, h5, h6⟩ := h
    obtain ⟨hg, hm, hn⟩ := bi_ok ok h2
    exact i_rng2 h1 hg hm (okE a ok h5).1 h3 (okE b ok h6).1 h4
  | .enum a, X, cf, c, lv, xt, x, ok, h => by
    unfold mSrc at h
    split at h <;> first | (cases h; done) | (rename_i heq; cases heq; done) | skip
    rename_i heq
    cases heq
    simp only [Bool.and_eq_true, decide_eq_true_eq] at h
    obtain ⟨h1, h0, h2, h3, h4⟩ := h
    obtain ⟨hg, hm, hn⟩ := bi_ok ok h2
    obtain ⟨u1, u2, u3, eu⟩ := tup_shape h0
    rw [eu]
    exact i_enum h1 hg hm (okE a ok h4).1 h3
  | .zipL _ _, _, _, _, _, _, _, _, h => by simp [mSrc] at h
  | .zip a b, X, cf, c, lv, xt, x, ok, h => by
    unfold mSrc at h
    split at h <;> first | (cases h; done) | (rename_i heq; cases heq; done) | skip
    rename_i heq
    cases heq
    simp only [Bool.and_eq_true, decide_eq_true_eq] at h
    obtain ⟨h1, h0, h2, h3, h4, h5, h6⟩ := h
    obtain ⟨hg, hm, hn⟩ := bi_ok ok h2
    obtain ⟨u1, u2, u3, eu⟩ := tup_shape h0
    rw [eu]
    exact i_zip h1 hg hm (okE a ok h5).1 h3 (okE b ok h6).1 h4
termination_by structural e => e
end
end QE

set_option Elab.async false
set_option linter.all false
set_option maxRecDepth 10000
set_option maxHeartbeats 1000000
/-! The check is sound: statements, defs, texts. -/
namespace QE
open PySem PySem.Spec PyProof.Rows L2 LamX L2H
def noOwn (scope : Scope) (y : Str) : Bool := !(scope.names.any fun (n, k) => n == y && (k == .local || k == .cell))
/-- a comprehension that goes into a name by the short road -/
def swapB (sc : Scope) : Expr → Expr → Bool
  | .Name y py, .ListComp _ _ scope p => isL sc y && ((py.line == p.line) && noOwn scope y)
  | .Name y py, .DictComp _ _ _ scope p => isL sc y && ((py.line == p.line) && noOwn scope y)
  | _, _ => false
def strip : E → E
  | .cell e => e
  | e => e
def isComp : E → Bool
  | .comp _ _ _ _ _ => true
  | .dcomp _ _ _ _ _ _ => true
  | _ => false
theorem strip_read {K : PySem.W.Frag} {c : Ctx} (e : E) : ∀ σ H Q, tE K c e σ H Q → tE K c (strip e) σ H Q := by
  intro σ H Q h
  unfold strip
  split
  · exact cell_read h
  · exact h
def mSw (cf : Cf) (N : List Str) (sc : Scope) : T → E → Expr → Expr → Bool
  | .name i, e, .Name y _, x => decide (N[i]? = some y) && (isComp (strip e) && mE cf N (strip e) sc x)
  | _, _, _, _ => false
mutual
def mS (cf : Cf) (N : List Str) : Stm → Scope → Stmt → Bool
  | .asg tg e, sc, .Assign [t] x _ => if swapB sc t x then mSw cf N sc tg e t x else ((noComp x || (noName t || celT sc t)) && ((noTup x || (noSeqT t || celTs sc t)) && (plainG t && (mE cf N e sc x && mG N sc (fun _ => true) tg t))))
  | .par [i, j] es, sc, .Assign [.Tuple [.Name x px, .Name y py] _ _] (.Tuple [a, b] _ _) _ => (decide (N[i]? = some x) && (decide (N[j]? = some y) && decide (i ≠ j))) && ((isL sc x && isL sc y) && (((py.line == px.line) && (!(x == y))) &&
      (([a, b].all plainE && (!([a, b].all (foldedForSure 8)) && !([a, b].all (constantsAlone 8)))) && mEs cf N es sc [a, b])))
  | .par [i, j, l] es, sc, .Assign [.Tuple [.Name x px, .Name y py, .Name z pz] _ _] (.Tuple [a, b, d] _ _) _ => (decide (N[i]? = some x) && (decide (N[j]? = some y) && (decide (N[l]? = some z) && (decide (i ≠ j) && (decide (i ≠ l) && decide (j ≠ l)))))) &&
      ((isL sc x && (isL sc y && isL sc z)) && (((py.line == px.line) && ((pz.line == px.line) && (!(x == y) && (!(x == z) && !(y == z))))) &&
      (([a, b, d].all plainE && (!([a, b, d].all (foldedForSure 8)) && !([a, b, d].all (constantsAlone 8)))) && mEs cf N es sc [a, b, d])))
  | .setIx o i e, sc, .Assign [.Subscript xo xi _] x _ => noSlice xi && (mE cf N e sc x && (mE cf N o sc xo && mE cf N i sc xi))
  | .aug i op e, sc, .AugAssign (.Name y _) o x _ => augOk op && (opIs op o && (decide (N[i]? = some y) && (isLoc sc y && mE cf N e sc x)))
  | .ext i e, sc, .AugAssign (.Name y _) .Add x _ => decide (N[i]? = some y) && (isLoc sc y && mE cf N e sc x)
  | .expr e, sc, .Expr x _ => noComp x && mE cf N e sc x
  | .ret e, sc, .Return (some x) _ => mE cf N e sc x
  | .retN, _, .Return none _ => true
  | .if_ t a b, sc, .If xt xa xb _ => tst t && (mE cf N t sc xt && (mSs cf N a sc xa && mSs cf N b sc xb))
  | .for_ tg src body, sc, .For xt xi xb [] _ => noSetE xi && (mSrc cf N src sc xt xi && (mG N sc (fun _ => true) tg xt && mSs cf N body sc xb))
  | .while_ t body, sc, .While xt xb [] _ => tst t && (mE cf N t sc xt && mSs cf N body sc xb)
  | .brk, _, .Break _ => true
  | .cont, _, .Continue _ => true
  | .pass, _, .Pass _ => true
  | .raise_ k, sc, .Raise (some (.Call (.Name x _) [.Constant (.str _) _ _] [] _)) none _ => decide (cf.kls[k]? = some x) && (isGl sc x && plainN x)
  | .xcall (.call f es), sc, .Expr x _ => mX cf N (.call f es) sc x
  | .opq, _, _ => true
  | _, _, _ => false
def mSs (cf : Cf) (N : List Str) : List Stm → Scope → List Stmt → Bool
  | [], _, [] => true
  | s :: ss, sc, x :: xs => mS cf N s sc x && mSs cf N ss sc xs
  | _, _, _ => false
end
section
variable {X : Cx} {cf : Cf} {c : Ctx} {lv : Nat} {W : WX}
theorem isL_ok {x : Str} (h : isL X.env.scope x = true) : X.env.scope.names.lookup x = some .local := by
  simp only [isL, decide_eq_true_eq] at h
  exact h
theorem noOwn_ok {scope : Scope} {y : Str} (h : noOwn scope y = true) : (scope.names.any fun (n, k) => n == y && (k == .local || k == .cell)) = false := by
  simpa only [noOwn, Bool.not_eq_true'] using h
theorem block_fn (hk : X.env.scope.kind = .function) : X.env.blockKind = .function := by unfold Env.blockKind; rw [hk]; rfl
theorem okSw (ok : Okx X cf c lv) (hk : X.env.scope.kind = .function) {tg : T} {e : E} {t x : Expr} {pos : Pos} (hs : swapB X.env.scope t x = true) (h : mSw cf X.N X.env.scope tg e t x = true) : PS X (.Assign [t] x pos) (tS X.K c W (.asg tg e)) := by
  unfold mSw at h
  split at h
  · rename_i i y py
    simp only [Bool.and_eq_true, decide_eq_true_eq] at h
    obtain ⟨hi, hc, hm⟩ := h
    have rd := strip_read (K := X.K) (c := c) e
    revert hm hc rd
    generalize strip e = e'
    intro hc hm rd
    cases e' with
    | comp own g src ifs elt =>
      obtain ⟨xe, xt, xi, xifs, isa, scope, p, rfl, h1, h2, h3, h4, h5, h6, h7, h8, h9⟩ := inv_comp hm
      subst h1 h2
      simp only [List.all_eq_true, decide_eq_true_eq] at h5
      simp only [swapB, Bool.and_eq_true] at hs
      exact s_setComp rd ok.calm ok.nd hi (isL_ok hs.1) (sw_true hk (isL_ok hs.1) hs.2.1 (noOwn_ok hs.2.2)) (okSrc src ok h6) (blk_ok h3) (fun s H C cl fp => okG (ok.blk s H scope C cl fp) (fun x z => z) g xt h7) (fun s H C cl fp => okIfs ifs (ok.blk s H scope C cl fp) h8)
        (fun s H C cl fp => (okE elt (ok.blk s H scope C cl fp) h9).1) h4 h5
    | dcomp own g src t k v =>
      obtain ⟨xk, xv, xt, xi, isa, scope, p, rfl, h1, h2, h3, h4, h5, h6, h7, h8, h9⟩ := inv_dcomp hm
      subst h1 h2
      simp only [List.all_eq_true, decide_eq_true_eq] at h5
      simp only [swapB, Bool.and_eq_true] at hs
      exact s_setDcomp rd ok.un ok.calm ok.nd hi (isL_ok hs.1) (swD_true hk (isL_ok hs.1) hs.2.1 (noOwn_ok hs.2.2)) (okSrc src ok h6) (blk_ok h3) (fun s H C cl fp => okG (ok.blk s H scope C cl fp) (fun x z => z) g xt h7)
        (fun s H C cl fp => (okE k (ok.blk s H scope C cl fp) h8).1) (fun s H C cl fp => (okE v (ok.blk s H scope C cl fp) h9).1) h4 h5
    | _ => cases hc
  · cases h
end
mutual
theorem okS : ∀ (s : Stm) {X : Cx} {cf : Cf} {c : Ctx} {lv : Nat} {W : WX} {x : Stmt}, Okx X cf c lv → X.env.scope.kind = .function → (∀ y, X.fn y = true) → PassesOwn (model X.prog X.w) X.A X.env X.xe → L2N.Takes X W → mS cf X.N s X.env.scope x = true → PS X x (tS X.K c W s)
  | .asg tg e, X, cf, c, lv, W, x, ok, hk, hf, hp, tk, h => by
    unfold mS at h
    split at h <;> first | (cases h; done) | (rename_i heq; cases heq; done) | skip
    rename_i heq
    cases heq
    split at h
    · rename_i hs
      exact okSw ok hk hs h
    · simp only [Bool.and_eq_true, Bool.or_eq_true] at h
      exact s_asg (okE e ok h.2.2.2.1).1 (okG ok (fun x _ => hf x) tg _ h.2.2.2.2) h.2.2.1 h.1 h.2.1
  | .par is es, X, cf, c, lv, W, x, ok, hk, hf, hp, tk, h => by
    unfold mS at h
    split at h <;> first | (cases h; done) | (rename_i heq; cases heq; done) | skip
    · rename_i heq
      cases heq
      simp only [Bool.and_eq_true, decide_eq_true_eq, Bool.not_eq_true'] at h
      obtain ⟨⟨hi, hj, hij⟩, ⟨hx, hy⟩, ⟨hl, hne⟩, ⟨hpl, hfo, hco⟩, hes⟩ := h
      exact s_par2 ok.calm ok.nd hi hj hij (block_fn hk) (isL_ok hx) (isL_ok hy) (okEs es ok hpl hes) hl hne hpl hfo hco
    · rename_i heq
      cases heq
      simp only [Bool.and_eq_true, decide_eq_true_eq, Bool.not_eq_true'] at h
      obtain ⟨⟨hi, hj, hl', hij, hil, hjl⟩, ⟨hx, hy, hz⟩, ⟨hl, hl2, hne, hxz, hyz⟩, ⟨hpl, hfo, hco⟩, hes⟩ := h
      exact s_par3 ok.calm ok.nd hi hj hl' hij hil hjl (block_fn hk) (isL_ok hx) (isL_ok hy) (isL_ok hz) (okEs es ok hpl hes) hl hl2 hne hxz hyz hpl hfo hco
  | .setIx o i e, X, cf, c, lv, W, x, ok, hk, hf, hp, tk, h => by
    unfold mS at h
    split at h <;> first | (cases h; done) | (rename_i heq; cases heq; done) | skip
    rename_i heq
    cases heq
    simp only [Bool.and_eq_true] at h
    exact s_setIx ok.un (okE e ok h.2.1).1 (okE o ok h.2.2.1).1 (okE i ok h.2.2.2).1 h.1
  | .aug i op e, X, cf, c, lv, W, x, ok, hk, hf, hp, tk, h => by
    unfold mS at h
    split at h <;> first | (cases h; done) | (rename_i heq; cases heq; done) | skip
    rename_i heq
    cases heq
    simp only [Bool.and_eq_true, decide_eq_true_eq] at h
    obtain ⟨h1, h2, h3, h4, h5⟩ := h
    cases opIs_ok h2
    exact s_aug h1 ok.nd h3 (loc_ok h4) (okE e ok h5).1 (.inl (hf _))
  | .ext i e, X, cf, c, lv, W, x, ok, hk, hf, hp, tk, h => by
    unfold mS at h
    split at h <;> first | (cases h; done) | (rename_i heq; cases heq; done) | skip
    rename_i heq
    cases heq
    simp only [Bool.and_eq_true, decide_eq_true_eq] at h
    exact s_ext ok.nd h.1 (loc_ok h.2.1) (okE e ok h.2.2).1 (.inl (hf _))
  | .expr e, X, cf, c, lv, W, x, ok, hk, hf, hp, tk, h => by
    unfold mS at h
    split at h <;> first | (cases h; done) | (rename_i heq; cases heq; done) | skip
    rename_i heq
    cases heq
    simp only [Bool.and_eq_true] at h
    exact s_expr (okE e ok h.2).1 h.1
  | .ret e, X, cf, c, lv, W, x, ok, hk, hf, hp, tk, h => by
    unfold mS at h
    split at h <;> first | (cases h; done) | (rename_i heq; cases heq; done) | skip
    rename_i heq
    cases heq
    exact s_ret (okE e ok h).1
  | .retN, X, cf, c, lv, W, x, ok, hk, hf, hp, tk, h => by
    cases x with
    | Return v p =>
      cases v with
      | none => exact s_retN
      | some _ => simp [mS] at h
    | _ => simp [mS] at h
  | .if_ t a b, X, cf, c, lv, W, x, ok, hk, hf, hp, tk, h => by
    unfold mS at h
    split at h <;> first | (cases h; done) | (rename_i heq; cases heq; done) | skip
    rename_i heq
    cases heq
    simp only [Bool.and_eq_true] at h
    exact s_if ((okE t ok h.2.1).2 h.1) (okSs a ok hk hf hp tk h.2.2.1) (okSs b ok hk hf hp tk h.2.2.2)
  | .for_ tg src body, X, cf, c, lv, W, x, ok, hk, hf, hp, tk, h => by
    unfold mS at h
    split at h <;> first | (cases h; done) | (rename_i heq; cases heq; done) | skip
    rename_i heq
    cases heq
    simp only [Bool.and_eq_true] at h
    exact s_for hp ok.calm (okSrc src ok h.2.1) (okG ok (fun x _ => hf x) tg _ h.2.2.1) (okSs body ok hk hf hp tk h.2.2.2) h.1
  | .while_ t body, X, cf, c, lv, W, x, ok, hk, hf, hp, tk, h => by
    unfold mS at h
    split at h <;> first | (cases h; done) | (rename_i heq; cases heq; done) | skip
    rename_i heq
    cases heq
    simp only [Bool.and_eq_true] at h
    exact s_while hp ((okE t ok h.2.1).2 h.1) (okSs body ok hk hf hp tk h.2.2)
  | .brk, X, cf, c, lv, W, x, ok, hk, hf, hp, tk, h => by
    cases x with
    | Break p => exact s_brk
    | _ => simp [mS] at h
  | .cont, X, cf, c, lv, W, x, ok, hk, hf, hp, tk, h => by
    cases x with
    | Continue p => exact s_cont
    | _ => simp [mS] at h
  | .pass, X, cf, c, lv, W, x, ok, hk, hf, hp, tk, h => by
    cases x with
    | Pass p => exact s_pass
    | _ => simp [mS] at h
  | .raise_ k, X, cf, c, lv, W, x, ok, hk, hf, hp, tk, h => by
    unfold mS at h
    split at h <;> first | (cases h; done) | (rename_i heq; cases heq; done) | skip
    rename_i heq
    cases heq
    simp only [Bool.and_eq_true, decide_eq_true_eq] at h
    obtain ⟨C, hm, hC, R⟩ := ok.rais _ _ h.1
    exact s_raise ok.calm tk R hm hC (gl_ok h.2.1) (plain1 h.2.2)
  | .xcall e, X, cf, c, lv, W, x, ok, hk, hf, hp, tk, h => by
    unfold mS at h
    split at h <;> first | (cases h; done) | (rename_i heq; cases heq; done) | skip
    rename_i heq
    cases heq
    obtain ⟨y, q, xs, p, rfl, h1, h2, h3, h4, h5, h6⟩ := inv_xcall h
    obtain ⟨fa, fd, ps, F, hm, hk', hb⟩ := ok.fns _ y h1
    cases xs with
    | nil => cases h4
    | cons xa xs => exact s_xcall tk F ok.room (gl_ok h2) hm hk' hb (okEs _ ok h5 h6) (plain1 h3) h5
  | .opq, X, cf, c, lv, W, x, ok, hk, hf, hp, tk, h => s_opq
theorem okSs : ∀ (ss : List Stm) {X : Cx} {cf : Cf} {c : Ctx} {lv : Nat} {W : WX} {xs : List Stmt}, Okx X cf c lv → X.env.scope.kind = .function → (∀ y, X.fn y = true) → PassesOwn (model X.prog X.w) X.A X.env X.xe → L2N.Takes X W → mSs cf X.N ss X.env.scope xs = true → PSs X xs (tSs X.K c W ss)
  | [], X, cf, c, lv, W, xs, ok, hk, hf, hp, tk, h => by
    cases xs with
    | nil => exact ss_nil
    | cons _ _ => simp [mSs] at h
  | s :: ss, X, cf, c, lv, W, xs, ok, hk, hf, hp, tk, h => by
    cases xs with
    | nil => simp [mSs] at h
    | cons x xs =>
      simp only [mSs, Bool.and_eq_true] at h
      exact ss_cons (okS s ok hk hf hp tk h.1) (okSs ss ok hk hf hp tk h.2)
end

end QE

set_option Elab.async false
set_option linter.all false
set_option maxRecDepth 10000
set_option maxHeartbeats 1000000
/-! The text of an except suite beside the evaluator's text. -/
namespace QE
open PySem PySem.Spec PyProof.Rows L2 LamX L2H
def nmT : T → Bool
  | .name _ => true
  | _ => false
mutual
def mH (cf : Cf) (N : List Str) : E → Scope → Expr → Bool
  | .var i, sc, .Name x _ => decide (N[i]? = some x) && (isVis sc x && plainN x)
  | .lit v, _, .Constant k _ _ => constOk v k
  | .tup es, sc, .Tuple xs _ _ => xs.all plainE && mHs cf N es sc xs
  | .list es, sc, .List xs _ => xs.all plainE && mHs cf N es sc xs
  | .isx a k, sc, .Call (.Name x _) [xa, .Name y _] [] _ => decide (x = PySem.Str.ofString "isinstance") && (isBi cf sc x && (plainE xa && (decide (cf.ecl[k]? = some y) && (isGl sc y && (plainN y && mH cf N a sc xa)))))
  | .bi .tuple [e], sc, .Call (.Name x _) [xa] [] _ => decide (x = PySem.Str.ofString "tuple") && (isBi cf sc x && (plainE xa && mH cf N e sc xa))
  | .comp own tg (.zipL a b) [.var i] (.var j), sc, .ListComp (.Name ye _) [⟨.Tuple es k tp, .Call (.Name x _) [xa, xb] [] _, [.Name yt _], isa⟩] scope _ => (decide (isa = 0) && (decide (own = (ownOf N scope).map (·.2)) && (blkB N sc scope && (tgN tg).all (fun i => decide (i ∈ own))))) &&
      ((decide (x = PySem.Str.ofString "zip") && (isBi cf sc x && (plainE xa && (plainE xb && (mH cf N a sc xa && mH cf N b sc xb))))) && ((match tg with
        | .tup ts => ts.all nmT && (es.all plainG && (decide (es.length = ts.length) && mGs N (relS scope sc) (fun x => scope.names.lookup x == some .cell) ts es))
        | _ => false) &&
      ((decide (N[i]? = some yt) && (isVis (relS scope sc) yt && plainN yt)) && (decide (N[j]? = some ye) && (isVis (relS scope sc) ye && plainN ye)))))
  | _, _, _ => false
def mHs (cf : Cf) (N : List Str) : List E → Scope → List Expr → Bool
  | [], _, [] => true
  | e :: es, sc, x :: xs => mH cf N e sc x && mHs cf N es sc xs
  | _, _, _ => false
end
def mHS (cf : Cf) (N : List Str) : Stm → Scope → Stmt → Bool
  | .asg (.name i) e, sc, .Assign [.Name y _] x _ => noComp x && (noTup x && (decide (N[i]? = some y) && (isL sc y && mH cf N e sc x)))
  | .ret e, sc, .Return (some x) _ => mH cf N e sc x
  | _, _, _ => false
def mHSs (cf : Cf) (N : List Str) : List Stm → Scope → List Stmt → Bool
  | [], _, [] => true
  | s :: ss, sc, x :: xs => mHS cf N s sc x && mHSs cf N ss sc xs
  | _, _, _ => false
/-- what holds in an except suite -/
structure Hkx (X : Cx) (cf : Cf) (c : Ctx) : Prop where
  nd : X.N.Nodup
  hot : HotC X
  bis : ∀ x, x ∈ cf.bis → X.mg x = none
  ecl : ∀ (k : Nat) (y : Str), cf.ecl[k]? = some y → ∃ (u : V) (cv : Value), (RelV u cv ∧ ∀ w, RelV u w → w = cv) ∧ (X.mg y = some cv ∨ (X.mg y = none ∧ bootBuiltins y = some cv)) ∧ ∀ k' a D b, c.exn = some (k', a) → c.cls k' = some D → c.sub k' k = some b → PySem.W.kitOne X.K (.ref D) cv = some b
  ise : ∀ k' a, c.exn = some (k', a) → ∃ D, c.cls k' = some D ∧ CallR X (.builtin "isinstance") (rIsE X.K D a)
section
variable {X : Cx} {cf : Cf} {c : Ctx}
theorem Hkx.bi (ok : Hkx X cf c) {x : Str} (h : isBi cf X.env.scope x = true) : Gl X x ∧ X.mg x = none ∧ plainN x = true := by
  simp only [isBi, Bool.and_eq_true, decide_eq_true_eq] at h
  exact ⟨gl_ok h.1, ok.bis x h.2.1, h.2.2⟩
theorem okGsH {Y : Cx} (nd : Y.N.Nodup) {fb : Str → Bool} (hf : ∀ x, fb x = true → Y.fn x = true) : ∀ (ts : List T) (es : List Expr), mGs Y.N Y.env.scope fb ts es = true → (∀ t ∈ ts, ∃ i, t = .name i) → PGs Y es (tGs Y.K ts)
  | [], [], h, _ => gs_nil
  | [], _ :: _, h, _ => by simp [mGs] at h
  | _ :: _, [], h, _ => by simp [mGs] at h
  | t :: ts, e :: es, h, ht => by
    simp only [mGs, Bool.and_eq_true] at h
    obtain ⟨i, rfl⟩ := ht t (by simp)
    cases e with
    | Name x p =>
      have h1 := h.1
      simp only [mG, Bool.and_eq_true, decide_eq_true_eq, Bool.or_eq_true] at h1
      refine gs_cons (g_name nd h1.1 (loc_ok h1.2.1) (h1.2.2.elim (fun z => .inl (hf x z)) fun z => .inr (isL_ok z))) (okGsH nd hf ts es h.2 fun t m => ht t (by simp [m])) rfl
    | _ => simp [mG] at h
theorem nm_all {ts : List T} (h : ts.all nmT = true) : ∀ t ∈ ts, ∃ i, t = .name i := fun t m => by
  have := List.all_eq_true.mp h t m
  cases t with
  | name i => exact ⟨i, rfl⟩
  | tup _ => cases this
theorem ecl_pe (ok : Hkx X cf c) {k : Nat} {y : Str} (h1 : cf.ecl[k]? = some y) (h2 : isGl X.env.scope y = true) (h3 : plainN y = true) : ∃ (u : V) (cv : Value), ClsV X y u cv ∧ ∀ k' a D b, c.exn = some (k', a) → c.cls k' = some D → c.sub k' k = some b → PySem.W.kitOne X.K (.ref D) cv = some b := by
  obtain ⟨u, cv, ⟨r1, r2⟩, m, hs⟩ := ok.ecl k y h1
  refine ⟨u, cv, ⟨fun pos => ?_, r2⟩, hs⟩
  rcases m with m | ⟨m, b⟩
  · exact pe_glob (gl_ok h2) m r1 (plain1 h3)
  · exact pe_bltn (gl_ok h2) m b r1 (plain3 h3) (plain1 h3)
mutual
theorem okH (ok : Hkx X cf c) : ∀ (e : E) (x : Expr), mH cf X.N e X.env.scope x = true → PE X x (tE X.K c e)
  | .var i, x, h => by
    unfold mH at h
    split at h <;> first | (cases h; done) | (rename_i heq; cases heq; done) | skip
    rename_i heq
    cases heq
    simp only [Bool.and_eq_true, decide_eq_true_eq] at h
    exact s_var h.1 (vis_ok h.2.1) (plain1 h.2.2) (plain2 h.2.2)
  | .lit v, x, h => by
    unfold mH at h
    split at h <;> first | (cases h; done) | (rename_i heq; cases heq; done) | skip
    rename_i heq
    cases heq
    exact s_lit h
  | .tup es, x, h => by
    unfold mH at h
    split at h <;> first | (cases h; done) | (rename_i heq; cases heq; done) | skip
    rename_i heq
    cases heq
    simp only [Bool.and_eq_true] at h
    exact s_tup (okHs ok es _ h.1 h.2)
  | .list es, x, h => by
    unfold mH at h
    split at h <;> first | (cases h; done) | (rename_i heq; cases heq; done) | skip
    rename_i heq
    cases heq
    simp only [Bool.and_eq_true] at h
    exact s_list (okHs ok es _ h.1 h.2)
  | .isx a k, x, h => by
    unfold mH at h
    split at h <;> first | (cases h; done) | (rename_i heq; cases heq; done) | skip
    rename_i heq
    cases heq
    simp only [Bool.and_eq_true, decide_eq_true_eq] at h
    obtain ⟨h1, h2, h3, h4, h5, h6, h7⟩ := h
    obtain ⟨hg, hm, hn⟩ := ok.bi h2
    obtain ⟨u, cv, hy, hs⟩ := ecl_pe ok h4 h5 h6
    exact s_isx h1 hg hm (plain3 hn) (plain1 hn) (okH ok a _ h7) h3 hy hs ok.ise
  | .bi b es, x, h => by
    unfold mH at h
    split at h <;> first | (cases h; done) | (rename_i heq; cases heq; done) | skip
    rename_i heq
    cases heq
    simp only [Bool.and_eq_true, decide_eq_true_eq] at h
    obtain ⟨h1, h2, h3, h4⟩ := h
    obtain ⟨hg, hm, hn⟩ := ok.bi h2
    exact s_tupleC h1 hg hm (a_cons (okH ok _ _ h4) a_nil h3) (by simp [h3]) (plain3 hn) (plain1 hn)
  | .comp own tg src ifs elt, x, h => by
    unfold mH at h
    split at h <;> first | (cases h; done) | (rename_i heq; cases heq; done) | skip
    rename_i heq
    cases heq
    simp only [Bool.and_eq_true, decide_eq_true_eq] at h
    obtain ⟨⟨h1, h2, h3, h4⟩, ⟨h5, h6, h7, h8, h9, h10⟩, h11, ⟨h12, h13, h14⟩, ⟨h15, h16, h17⟩⟩ := h
    subst h1 h2
    obtain ⟨hg, hm, hn⟩ := ok.bi h6
    cases tg with
    | name _ => cases h11
    | tup ts =>
      simp only [Bool.and_eq_true, decide_eq_true_eq] at h11
      obtain ⟨k1, k2, k3, k4⟩ := h11
      simp only [List.all_eq_true, decide_eq_true_eq] at h4
      exact s_compH ok.hot ok.nd (i_zipH h5 hg hm (okH ok _ _ h9) h7 (okH ok _ _ h10) h8) (blk_ok h3)
        (fun z G C cl fp => g_tupH (QH.blkQ_hot ok.hot) (okGsH (Y := QH.blkQ X z G _ (compEnvC _ cl C X.env) fp) ok.nd (fun x q => q) ts _ k4 (nm_all k1)) k2 k3)
        (fun z G C cl fp => ifs_one (t_val (s_var h12 (vis_ok (X := QH.blkQ X z G _ (compEnvC _ cl C X.env) fp) h13) (plain1 h14) (plain2 h14)) rfl))
        (fun z G C cl fp => s_var h15 (vis_ok (X := QH.blkQ X z G _ (compEnvC _ cl C X.env) fp) h16) (plain1 h17) (plain2 h17)) rfl h4
  | .con _, _, h => by simp [mH] at h
  | .bin _ _ _, _, h => by simp [mH] at h
  | .neg _, _, h => by simp [mH] at h
  | .cmp _ _ _, _, h => by simp [mH] at h
  | .chain _ _ _ _ _, _, h => by simp [mH] at h
  | .and _, _, h => by simp [mH] at h
  | .or _, _, h => by simp [mH] at h
  | .not _, _, h => by simp [mH] at h
  | .ite _ _ _, _, h => by simp [mH] at h
  | .dnew _, _, h => by simp [mH] at h
  | .idx _ _, _, h => by simp [mH] at h
  | .slice _ _ _, _, h => by simp [mH] at h
  | .call _ _, _, h => by simp [mH] at h
  | .isi _ _, _, h => by simp [mH] at h
  | .meth _ _ _, _, h => by simp [mH] at h
  | .append _ _, _, h => by simp [mH] at h
  | .dcomp _ _ _ _ _ _, _, h => by simp [mH] at h
  | .cell _, _, h => by simp [mH] at h
  | .d1 _ _ _, _, h => by simp [mH] at h
  | .get _ _ _, _, h => by simp [mH] at h
  | .trng _ _, _, h => by simp [mH] at h
  | .fn _, _, h => by simp [mH] at h
  | .callV _ _, _, h => by simp [mH] at h
  | .guard _ _ _ _ _, _, h => by simp [mH] at h
theorem okHs (ok : Hkx X cf c) : ∀ (es : List E) (xs : List Expr), xs.all plainE = true → mHs cf X.N es X.env.scope xs = true → PA X xs (tEs X.K c es)
  | [], xs, hp, h => by
    cases xs with
    | nil => exact a_nil
    | cons _ _ => simp [mHs] at h
  | e :: es, xs, hp, h => by
    cases xs with
    | nil => simp [mHs] at h
    | cons x xs =>
      simp only [mHs, Bool.and_eq_true] at h
      simp only [List.all_cons, Bool.and_eq_true] at hp
      exact a_cons (okH ok e x h.1) (okHs ok es xs hp.2 h.2) hp.1
end
theorem okHS (ok : Hkx X cf c) {W : WX} (s : Stm) (x : Stmt) (h : mHS cf X.N s X.env.scope x = true) : PS X x (tS X.K c W s) := by
  unfold mHS at h
  split at h
  · simp only [Bool.and_eq_true, decide_eq_true_eq] at h
    obtain ⟨h1, h2, h3, h4, h5⟩ := h
    exact s_asg (okH ok _ _ h5) (g_name ok.nd h3 (.inl (isL_ok h4)) (.inr (isL_ok h4))) rfl (.inl h1) (.inl h2)
  · exact s_ret (okH ok _ _ h)
  · cases h
theorem okHSs (ok : Hkx X cf c) {W : WX} : ∀ (ss : List Stm) (xs : List Stmt), mHSs cf X.N ss X.env.scope xs = true → PSs X xs (tSs X.K c W ss)
  | [], xs, h => by
    cases xs with
    | nil => exact ss_nil
    | cons _ _ => simp [mHSs] at h
  | s :: ss, xs, h => by
    cases xs with
    | nil => simp [mHSs] at h
    | cons x xs =>
      simp only [mHSs, Bool.and_eq_true] at h
      exact ss_cons (okHS ok s x h.1) (okHSs ok ss xs h.2)
end
end QE

set_option Elab.async false
set_option linter.all false
set_option maxRecDepth 10000
set_option maxHeartbeats 1000000
/-! Texts: defs, defs that catch. -/
namespace QE
open PySem PySem.Spec PyProof.Rows L2 LamX L2H
/-- a def of the text: its name, its text, its names, its parameters; its code object, the table there, the name of its lambdas -/
structure Ent where
  x : Str
  st : Stmt
  N : List Str
  ps : List Str
  tab : Option (Nat × Nat × List Nat) := none
/-- a def that catches: its place, the caught one's name, the suite, the rest, the class -/
structure Grd where
  g : Nat
  i : Nat
  st : List Stm
  sr : List Stm
  cs : Str
def scB (N ps : List Str) (sc : Scope) : Bool := decide (sc.kind = .function) && (decide (sc.isCoroutine = false) && (decide (sc.isGenerator = false) && (decide (N.Nodup) && (decide (N.take ps.length = ps) && (ps.all (fun x => isLoc sc x) && sc.names.all (fun y => decide (y.2 ≠ .free)))))))
theorem scB_ok {N ps : List Str} {sc : Scope} (h : scB N ps sc = true) : FnScope N ps sc := by
  simp only [scB, Bool.and_eq_true, decide_eq_true_eq, List.all_eq_true, isLoc, Bool.or_eq_true] at h
  obtain ⟨h1, h2, h3, h4, h5, h6, h7⟩ := h
  exact ⟨h1, h2, h3, h4, h5, h6, h7⟩
def cfOf (cf : Cf) (e : Ent) : Cf := { cf with tab := e.tab.map fun t => t.2 }
def tabB (e : Ent) : Bool := match e.tab with
  | some (_, _, q) => decide (e.x ++ ".<locals>." ++ "<lambda>" = strOf q)
  | none => true
def chkE (cf : Cf) (d : Def) (e : Ent) : Bool := decide (d.arity = e.ps.length) && (decide (d.size = e.N.length) && (tabB e && (scB e.N e.ps (defScope e.st) && mSs (cfOf cf e) e.N d.body (defScope e.st) (defBody e.st))))
def chkAll (cf : Cf) : List Def → List Ent → Bool
  | [], [] => true
  | d :: ds, e :: es => chkE cf d e && chkAll cf ds es
  | _, _ => false
theorem chk_get {cf : Cf} : ∀ {ds : List Def} {es : List Ent} {f : Nat} {e : Ent}, chkAll cf ds es = true → es[f]? = some e → ∃ d, ds[f]? = some d ∧ chkE cf d e = true
  | [], [], _, _, _, q => by simp at q
  | [], _ :: _, _, _, h, _ => by simp [chkAll] at h
  | _ :: _, [], _, _, _, q => by simp at q
  | d :: ds, e :: es, 0, e', h, q => by
    simp only [chkAll, Bool.and_eq_true] at h
    simp at q
    subst q
    exact ⟨d, rfl, h.1⟩
  | d :: ds, e :: es, f + 1, e', h, q => by
    simp only [chkAll, Bool.and_eq_true] at h
    simpa using chk_get h.2 (by simpa using q)
/-- where the defs lie -/
def Lies (K : PySem.W.Frag) (mg : Str → Option Value) (e : Ent) : Prop := ∃ fa fd, Fun K e.x e.x e.st fa fd ∧ mg e.x = some (.ref fa) ∧ Binds K fd e.ps [] ∧ ∀ cc p q, e.tab = some (cc, p, q) → fd.code = .ref cc
def AllLie (K : PySem.W.Frag) (mg : Str → Option Value) : List Ent → Prop
  | [] => True
  | e :: es => Lies K mg e ∧ AllLie K mg es
theorem lie_get {K : PySem.W.Frag} {mg : Str → Option Value} : ∀ {es : List Ent} {f : Nat} {e : Ent}, AllLie K mg es → es[f]? = some e → Lies K mg e
  | [], _, _, _, q => by simp at q
  | e :: es, 0, e', h, q => by simp at q; subst q; exact h.1
  | e :: es, f + 1, e', h, q => lie_get h.2 (by simpa using q)
/-! ### defs that catch -/
def restB : List Stm → List Stmt → Bool
  | [.ret (.lit v)], [.Return (some (.Constant k _ _)) _] => constOk v k
  | [.ret (.tup [])], [.Return (some (.Tuple [] _ _)) _] => true
  | _, _ => false
theorem restB_ok {X : Cx} {c : Ctx} {W : WX} {ss : List Stm} {xs : List Stmt} (h : restB ss xs = true) : PSs X xs (tSs X.K c W ss) := by
  unfold restB at h
  split at h
  · exact ss_cons (s_ret (s_lit h)) ss_nil
  · exact ss_cons (s_ret (s_tup a_nil)) ss_nil
  · cases h
def chkG (cf : Cf) (G : Grd) (e : Ent) : Bool := match e.ps, defBody e.st with
  | [a], .Try [.Expr (.Call (.Name a' _) [] [] _) _] [.ExceptHandler (some (.Name x _)) (some nm) (b :: suite) _] [] [] _ :: rest =>
    (decide (a' = a) && (decide (x = G.cs) && (plainN a && plainN x))) && ((decide (e.N[G.i]? = some nm) && (isL (defScope e.st) nm && (isGl (defScope e.st) x && scB e.N e.ps (defScope e.st)))) && (mHSs cf e.N G.st (defScope e.st) (b :: suite) && restB G.sr rest))
  | _, _ => false
/-- what is known of the classes -/
structure Clss (K : PySem.W.Frag) (mg : Str → Option Value) (cf : Cf) (cls : Nat → Option Nat) (sub : Nat → Nat → Option Bool) : Prop where
  ecl : ∀ (k : Nat) (y : Str), cf.ecl[k]? = some y → ∃ (u : V) (cv : Value), (RelV u cv ∧ ∀ w, RelV u w → w = cv) ∧ (mg y = some cv ∨ (mg y = none ∧ bootBuiltins y = some cv)) ∧ ∀ k' D b, cls k' = some D → sub k' k = some b → PySem.W.kitOne K (.ref D) cv = some b
  exc : ∀ k D, cls k = some D → ExcC K D
theorem guard_mk {X : Cx} {c : Ctx} {cf : Cf} {G : Grd} {e : Ent} {CS : Value} (h : chkG cf G e = true) (hl : Lies X.K X.mg e) (C : Catch c G.g e.N.length G.i G.st G.sr) (hce : X.mg G.cs = some CS ∨ (X.mg G.cs = none ∧ bootBuiltins G.cs = some CS ∧ G.cs ≠ "__name__"))
    (hx : ∀ k C v, c.cls k = some C → c.gx G.g k = some v → PySem.W.exmOne X.K (.ref C) CS = some true) (hbis : ∀ x, x ∈ cf.bis → X.mg x = none) (hk : Clss X.K X.mg cf c.cls c.sub) (h1 : ∀ v, c.gok G.g = some v → v.st = true) (h2 : ∀ k v, c.gx G.g k = some v → v.st = true) :
    GuardAt X c G.g e.x := by
  obtain ⟨ga, fd, F, hm, hb, _⟩ := hl
  obtain ⟨oc, od, kV, doc, pm, an, cdv, ct, osl, rfl, lk, hcd⟩ := F.ex
  unfold chkG at h
  split at h
  · rename_i a a' p2 p1 p3 xc p4 nm bst suite p7 p8 rest hps hbody
    simp only [Bool.and_eq_true, decide_eq_true_eq] at h
    obtain ⟨⟨ea, ex, ha, hxc⟩, ⟨hi, hl, hgx, hsc⟩, hst, hsr⟩ := h
    subst ea ex
    have SC := scB_ok hsc
    rw [hps] at SC hb
    have h0 : e.N[0]? = some a' := by
      have := SC.pre
      have h1 : (e.N.take 1)[0]? = some a' := by rw [show e.N.take 1 = [a'] from this]; rfl
      rwa [List.getElem?_take_of_lt (by omega)] at h1
    have hv : Vis (defScope e.st) a' := by
      rcases SC.par a' (by simp) with k | k
      · exact .inl k
      · exact .inr (.inl k)
    have hlt : 0 < e.N.length := (List.getElem?_eq_some_iff.mp h0).1
    refine ⟨⟨ga, oc, od, _, _, _, .none, kV, doc, pm, an, cdv, ct, osl, e.N, a', ⟨hm, F.kp, lk, hcd⟩, ⟨hb, SC, h0, hv⟩, ?_, ha⟩, h1, h2⟩
    rw [hbody]
    refine gives_try C rfl SC.nd hi (of_decide_eq_true hl) hlt (of_decide_eq_true hgx) (plain1 hxc) hce hx (fun s H k D a oe pn hD hz hd => ?_) (fun s H => restB_ok hsr)
    refine okHSs (X := (cxOf C8.CX0 X.prog X.w X.K X.mg X.base e.N e.x (defScope e.st) ga cdv X.A X.stack s H C8.E0).nox.suite a ((a, oe) :: pn)) (cf := cf) (c := suiteCtx c k a) ⟨SC.nd, ?_, hbis, fun k y q => ?_, fun k' a2 e2 => ?_⟩ G.st (bst :: suite) hst
    · obtain ⟨vs, hd⟩ := hd
      exact ⟨(a, oe), ⟨rfl, vs, hd, hz.2.2 vs hd⟩, by simp⟩
    · obtain ⟨u, cv, r, m, hs⟩ := hk.ecl k y q
      exact ⟨u, cv, r, m, fun k' a D b _ hD hb => hs k' D b hD hb⟩
    · have e3 : some (k, a) = some (k', a2) := e2
      cases e3
      exact ⟨D, hD, call_isE (hk.exc k D hD) hz.zc hd⟩
  · cases h
/-! ### all of a text -/
def chkGs (cf : Cf) (es : List Ent) (Gs : List Grd) : Bool := Gs.all fun G => match es[G.g]? with
  | some e => chkG cf G e
  | none => false
def stB (PG : Prog) : Bool := PG.grd.all fun t => t.2.1.st && t.2.2.all fun o => match o with
  | some v => v.st
  | none => true
theorem lookup_in {α : Type} {k : Nat} {a : α} : ∀ {l : List (Nat × α)}, l.lookup k = some a → (k, a) ∈ l
  | [], h => by cases h
  | (j, b) :: l, h => by
    simp only [List.lookup] at h
    split at h
    · rename_i q
      cases h
      rw [beq_iff_eq] at q
      subst q
      simp
    · exact List.mem_cons_of_mem _ (lookup_in h)
theorem st_ok {PG : Prog} {call : Nat → List Val → Sto → R Val} {b : Nat} (h : stB PG = true) (g : Nat) : (∀ v, (ctxOf PG call b).gok g = some v → v.st = true) ∧ ∀ k v, (ctxOf PG call b).gx g k = some v → v.st = true := by
  unfold stB at h
  rw [List.all_eq_true] at h
  refine ⟨fun v e => ?_, fun k v e => ?_⟩
  · have e : (PG.grd.lookup g).map (fun t => t.1) = some v := e
    cases hq : PG.grd.lookup g with
    | none => rw [hq] at e; cases e
    | some t =>
      rw [hq] at e
      cases e
      have := h _ (lookup_in hq)
      simp only [Bool.and_eq_true] at this
      exact this.1
  · have e : (PG.grd.lookup g).bind (fun t => (t.2[k]?).bind id) = some v := e
    cases hq : PG.grd.lookup g with
    | none => rw [hq] at e; cases e
    | some t =>
      rw [hq] at e
      have := h _ (lookup_in hq)
      simp only [Bool.and_eq_true, List.all_eq_true] at this
      have e : (t.2[k]?).bind id = some v := e
      cases hk : t.2[k]? with
      | none => rw [hk] at e; cases e
      | some o =>
        rw [hk] at e
        have e : o = some v := e
        subst e
        exact this.2 _ (List.mem_of_getElem? hk)
/-- what a text's frame says of all its parts -/
structure Parts (K : PySem.W.Frag) (mg : Str → Option Value) (PG : Prog) (es : List Ent) (Gs : List Grd) (cf : Cf) : Prop where
  names : cf.fns = es.map (·.x)
  grds : cf.grds = Gs.map (·.g)
  chk : chkAll cf PG.fns es = true
  chkg : chkGs cf es Gs = true
  lies : AllLie K mg es
  cons : ∀ (i : Nat) (x : Str), cf.cons[i]? = some x → ∃ u, mg x = some u ∧ ∀ v, PG.con[i]? = some v → flatIs v u
  bis : ∀ x, x ∈ cf.bis → mg x = none
  adr : ∀ (f a : Nat), PG.adr[f]? = some a → ∃ x, cf.fns[f]? = some x ∧ mg x = some (.ref a)
  rais : ∀ (k : Nat) (x : Str), cf.kls[k]? = some x → ∃ C, mg x = some (.ref C) ∧ PG.cls[k]? = some C ∧ Rais K C
  catches : ∀ G ∈ Gs, ∀ e, es[G.g]? = some e → ∀ call b, Catch (ctxOf PG call b) G.g e.N.length G.i G.st G.sr
  over : ∀ G ∈ Gs, ∃ CS, (mg G.cs = some CS ∨ (mg G.cs = none ∧ bootBuiltins G.cs = some CS ∧ G.cs ≠ "__name__")) ∧ ∀ (k C : Nat), PG.cls[k]? = some C → PySem.W.exmOne K (.ref C) CS = some true
  clss : Clss K mg cf (fun k => PG.cls[k]?) (fun a b => (PG.sub[a]?).bind fun r => r[b]?)
  st : stB PG = true
theorem all_okF {P : Program} {w : World} {K : PySem.W.Frag} {mg : Str → Option Value} {base : Heap} {PG : Prog} {es : List Ent} {Gs : List Grd} {cf : Cf} (Z : Parts K mg PG es Gs cf) (htab : ∀ e ∈ es, ∀ cc p q, e.tab = some (cc, p, q) → TabB base mg cc p) :
    ∀ (k f : Nat) (e : Ent), es[f]? = some e → ∀ (fa : Addr) (fd : FuncData), Fun K e.x e.x e.st fa fd → (∀ cc p q, e.tab = some (cc, p, q) → fd.code = .ref cc) → FnOk P w K mg base (L2N.CX P w) (3 * k) fa fd e.ps (spF K (fun i => PG.cls[i]?) (callFn PG k) f)
  | 0, f, e, q, fa, fd, F, hcode => by
    refine ⟨fun vs H Q E h => ?_, fun A outer s H args us vs Q E hr h0 hb hv h => ?_⟩
    · obtain ⟨hid, ρ, S, xs, hs, rl, o⟩ := h
      exact o.elim
    · obtain ⟨hid, ρ, S, xs, hs, rl, o⟩ := h
      exact o.elim
  | k + 1, f, e, q, fa, fd, F, hcode => by
    obtain ⟨d, hd, hch⟩ := chk_get Z.chk q
    simp only [chkE, Bool.and_eq_true, decide_eq_true_eq] at hch
    obtain ⟨h1, h2, h0, h3, h4⟩ := hch
    have SC := scB_ok h3
    show FnOk P w K mg base (L2N.CX P w) (3 * k + 2 + 1) fa fd e.ps _
    refine fn_okQ F SC hd h1 h2 fun cdv A outer s H ZZ b hcd hfd hr => ?_
    refine okSs (X := cxOf (L2N.CX P w) P w K mg base e.N e.x (defScope e.st) fa cdv A outer s H ZZ) (cf := cfOf cf e) (c := ctxOf PG (callFn PG k) b) (lv := 3 * k) d.body ⟨rfl, SC.nd, ?_, hr.mono (by omega), fun g y hy => ?_, Z.cons, Z.bis, Z.adr, Z.rais, fun p q' hp => ?_, fun g y _ hg hy => ?_⟩ SC.kind (fun _ => rfl) (passes_of rfl) (L2N.takes_of rfl rfl rfl rfl) h4
    · have := hr.un
      show (A.deeper _).units + 65 < cLine
      omega
    · have hy : cf.fns[g]? = some y := hy
      rw [Z.names, List.getElem?_map] at hy
      cases he : es[g]? with
      | none => rw [he] at hy; cases hy
      | some e2 =>
        rw [he] at hy
        cases hy
        obtain ⟨fa2, fd2, F2, m2, b2, c2⟩ := lie_get Z.lies he
        exact ⟨fa2, fd2, e2.ps, all_okF Z htab k g e2 he fa2 fd2 F2 c2, m2, F2.kp, b2⟩
    · have hp : e.tab.map (fun t => t.2) = some (p, q') := hp
      cases ht : e.tab with
      | none => rw [ht] at hp; cases hp
      | some t =>
        obtain ⟨cc, p2, q2⟩ := t
        rw [ht] at hp
        cases hp
        refine ⟨hr, ⟨cc, ?_, htab e (List.mem_of_getElem? q) cc p q' ht⟩, ?_⟩
        · have := hcode cc p q' ht
          rw [hfd] at this
          exact this
        · unfold tabB at h0
          rw [ht] at h0
          exact of_decide_eq_true h0
    · have hg : g ∈ cf.grds := hg
      rw [Z.grds] at hg
      obtain ⟨G, hG, eG⟩ := List.mem_map.mp hg
      subst eG
      have hy : cf.fns[G.g]? = some y := hy
      rw [Z.names, List.getElem?_map] at hy
      cases he : es[G.g]? with
      | none => rw [he] at hy; cases hy
      | some e2 =>
        rw [he] at hy
        cases hy
        have hcg : chkG cf G e2 = true := by
          have := List.all_eq_true.mp Z.chkg G hG
          rw [he] at this
          exact this
        obtain ⟨CS, hce, hx⟩ := Z.over G hG
        exact guard_mk (cf := cf) hcg (lie_get Z.lies he) (Z.catches G hG e2 he _ _) hce (fun k C v hC _ => hx k C hC) Z.bis Z.clss (st_ok Z.st G.g).1 (st_ok Z.st G.g).2
end QE

set_option Elab.async false
set_option linter.all false
set_option maxRecDepth 10000
set_option maxHeartbeats 1000000
/-! A law's own end, its defs' tables of code objects among the cells. -/
namespace QE
open PySem PySem.Spec PyProof.Rows L2 LamX
def intVs (ns : List Int) : List Val := ns.map .int
theorem rep_ints {K : PySem.W.Frag} {hid ρ : List Addr} {H : Hp} : ∀ ns : List Int, RepL K hid ρ H (QE.intVs ns) (ns.map V.int)
  | [] => .nil
  | n :: ns => .cons ⟨rfl, .of_int⟩ (rep_ints ns)
/-- the law's answer is True -/
def Told (r : R Val) : Prop := ∃ S, r = .ok (.bl true) S
/-- the tables of the text's defs -/
def tabsE (es : List Ent) : List (Nat × Nat × List Nat) := es.filterMap fun e => e.tab
def stoE (es : List Ent) : Sto := (tabsE es).map fun t => .tbl t.2.1 t.2.2
def csE (es : List Ent) : List (Addr × Addr) := (tabsE es).map fun t => (t.1, t.2.1)
theorem law_spec {PG : Prog} {es : List Ent} {cls : Nat → Option Nat} {k f : Nat} (h : ∀ ns : List Int, ns.length ≤ 63 → Told (callFn PG k f [.lst false (QE.intVs ns)] (stoE es)) ∧ Told (callFn PG k f [.kls ns] (stoE es))) (nd : ((csE es).map (·.2)).Nodup)
    (K : PySem.W.Frag) (H : Hp) (a : Addr) (ns : List Int) (hn : ns.length ≤ 63) (hT : ∀ p ∈ csE es, H p.2 = some (.tbl #[])) (hS : SqL K H a (ns.map V.int)) :
    spF K cls (callFn PG k) f [.ref a] H (fun v _ => v = .bl true) fun _ _ _ => False := by
  have ht : ∀ p ∈ (csE es).map (·.2), H p = some (.tbl #[]) := fun p hp => by
    obtain ⟨x, hx, e⟩ := List.mem_map.mp hp
    rw [← e]
    exact hT x hx
  have s0 : SOk K [] ((csE es).map (·.2)) H (stoE es) := by
    refine ⟨by simp [csE, stoE], nd, by simp, by simp, fun n o q => ?_⟩
    unfold stoE at q
    rw [List.getElem?_map] at q
    cases hq : (tabsE es)[n]? with
    | none => rw [hq] at q; cases q
    | some t =>
      rw [hq] at q
      cases q
      have hm : ((csE es).map (·.2))[n]? = some t.2.1 := by simp [csE, hq]
      refine ⟨t.2.1, hm, rfl, #[], ht _ (List.mem_of_getElem? hm), True.intro, fun pos cv hc => ?_⟩
      have z : codeAmong pos [] = some cv := hc
      simp [codeAmong] at z
  obtain ⟨⟨S1, e1⟩, ⟨S2, e2⟩⟩ := h ns hn
  rcases hS with hS | hS
  · refine ⟨[], _, stoE es, [.lst false (QE.intVs ns)], s0, .cons ⟨rfl, ?_⟩ .nil, ?_⟩
    · simp only [Rep]
      refine ⟨a, _, rfl, hS, fun z => ?_, by simp, rep_ints ns⟩
      have := ht a z
      rcases hS with hS | ⟨o, hS⟩ <;> (rw [this] at hS; cases hS)
    · rw [e1]
      exact fun ρ' H' e s u ru fu => ru.bl_
  · refine ⟨[], _, stoE es, [.kls ns], s0, .cons ⟨rfl, ?_⟩ .nil, ?_⟩
    · simp only [Rep]
      exact ⟨a, rfl, hS⟩
    · rw [e2]
      exact fun ρ' H' e s u ru fu => ru.bl_
/-- the written part without some addresses -/
def noTab (ps : List Nat) (K : PySem.W.Frag) : PySem.W.Frag := K.filter fun q => !ps.contains q.1
theorem noTab_get {ps : List Nat} {a : Addr} {o : Obj} : ∀ {K : PySem.W.Frag}, (noTab ps K).lookup a = some o → K.lookup a = some o ∧ ps.contains a = false
  | [], h => by cases h
  | (b, u) :: K, h => by
    unfold noTab at h
    rw [List.filter_cons] at h
    split at h
    · rename_i hb
      cases hq : (a == b) with
      | true =>
        simp only [List.lookup, hq] at h ⊢
        cases h
        rw [beq_iff_eq] at hq
        subst hq
        exact ⟨rfl, by simpa using hb⟩
      | false =>
        simp only [List.lookup, hq] at h ⊢
        exact noTab_get (ps := ps) (K := K) h
    · rename_i hb
      obtain ⟨h1, h2⟩ := noTab_get (ps := ps) (K := K) h
      have ne : (a == b) = false := by
        apply Bool.eq_false_iff.mpr
        intro z
        rw [beq_iff_eq] at z
        subst z
        rw [h2] at hb
        exact hb rfl
      simp only [List.lookup, ne]
      exact ⟨h1, h2⟩
theorem noTab_in {ps : List Nat} {K : PySem.W.Frag} {h : Heap} (X : K.In h) : (noTab ps K).In h := fun a o e => X a o (noTab_get e).1
theorem noTab_none {ps : List Nat} {K : PySem.W.Frag} {p : Nat} (h : ps.contains p = true) : (noTab ps K).lookup p = none := by
  cases e : (noTab ps K).lookup p with
  | none => rfl
  | some o =>
    have := (noTab_get e).2
    rw [h] at this
    cases this
theorem lie_mk {K : PySem.W.Frag} {h : Heap} {mg : Str → Option Value} {x : Str} {st : Stmt} {N ps : List Str} {tab : Option (Nat × Nat × List Nat)} {f : Addr} {od an : Option Addr} {sl : Array (Option Value)} {oc kV dc pm cd ct : Value} (X : K.In h) (G : h.Ns mainGlobals mg)
    (a : PySem.W.nsIn K mainGlobals x = some (some (.ref f))) (l : K.lookup f = some ⟨oc, od, .func (PySem.W.fnOf x x (defArgs st) (defBody st) (defScope st) .none kV dc pm an cd ct), sl⟩) (c : PySem.W.codeIn K cd x = true) (k : PySem.W.keepIn K (.ref f) = true)
    (hb : ∀ (kV doc pm : Value) (an : Option Addr) (cdv ct : Value) (us : List Value), us.length = ps.length → bindArgs (PySem.W.fnOf x x (defArgs st) (defBody st) (defScope st) .none kV doc pm an cdv ct) ⟨us, []⟩ = pure (ps.zip us))
    (ht : ∀ cc p q, tab = some (cc, p, q) → cd = .ref cc) : Lies K mg ⟨x, st, N, ps, tab⟩ := by
  have F := fun_mk (st := st) l c k
  exact ⟨f, _, F, PySem.W.mg_of X G a, F.binds hb, ht⟩
theorem fin_mk {l : PySem.W.OpenLaw} {w : World} {K : PySem.W.Frag} {mg : Str → Option Value} {h : Heap} {PG : Prog} {es : List Ent} {Gs : List Grd} {cf : Cf} {k f : Nat} {e : Ent} {fa : Addr} (hmg : mg "law" = some (.ref fa)) (Z : Parts K mg PG es Gs cf)
    (q : es[f]? = some e) (ex : e.x = "law") (ep : e.ps = [PySem.Str.ofString "script"])
    (hb : ∀ (kV doc pm : Value) (an : Option Addr) (cdv ct v : Value), bindArgs (PySem.W.fnOf e.x e.x (defArgs e.st) (defBody e.st) (defScope e.st) .none kV doc pm an cdv ct) ⟨[v], []⟩ = pure [(PySem.Str.ofString "script", v)])
    (told : ∀ ns : List Int, ns.length ≤ 63 → Told (callFn PG k f [.lst false (QE.intVs ns)] (stoE es)) ∧ Told (callFn PG k f [.kls ns] (stoE es))) (nd : ((csE es).map (·.2)).Nodup)
    (hT : ∀ p ∈ csE es, h.get? p.2 = some { cls := .none, data := .fields #[] }) (nT : ∀ p ∈ csE es, K.lookup p.2 = none) (hC : ∀ p ∈ csE es, PySem.W.CodeHd h p.1 p.2) :
    LawAtS l w K (L2N.CX l.prog w) (3 * k) 63 "script" mg fa h := by
  obtain ⟨fa', fd, F, hm, b, hc⟩ := lie_get Z.lies q
  have hh := hm
  rw [ex, hmg] at hh
  cases hh
  refine ⟨fd, csE es, spF K (fun i => PG.cls[i]?) (callFn PG k) f, hT, nT, hC, fun s v => ?_, fun H a ns hn _ hH hS => law_spec told nd K H a ns hn hH hS, fun base _ _ hB => ?_⟩
  · obtain ⟨oc, od, kV, doc, pm, an, cdv, ct, osl, rfl, lk, hcd⟩ := F.ex
    exact .of_eq (hb kV doc pm an cdv ct v)
  · have := all_okF (P := l.prog) (w := w) (base := base) Z (fun e' he' cc p q' ht => hB (cc, p) (List.mem_map.mpr ⟨(cc, p, q'), List.mem_filterMap.mpr ⟨e', he', ht⟩, rfl⟩)) k f e q fa fd F hc
    rw [ep] at this
    exact this
end QE

set_option Elab.async false
set_option linter.all false
set_option maxRecDepth 10000
set_option maxHeartbeats 1000000
/-! The parts of a text, told one by one. -/
namespace QE
open PySem PySem.Spec PyProof.Rows L2 LamX
/-- what the frame tells of a class of exceptions -/
structure ClsF (K : PySem.W.Frag) (C : Addr) : Prop where
  exc : PySem.W.excIn K C [.type "ValueError", .type "Exception", .type "BaseException", .type "object"] "ValueError.__new__" = true
  kp : PySem.W.keepIn K (.ref C) = true
  sub : PySem.W.subIn K (.ref C) (.type "BaseException") = some true
  ty : PySem.W.typeIn K (.ref C) = some (.type "type")
  ic : PySem.W.isClsIn K C = true
  hg : PySem.W.findIn K (.ref C) "__getattribute__" = some (some (.builtin "BaseException.__getattribute__"))
  hk : PySem.W.findIn K (.ref C) "__getattr__" = some none
  hd : PySem.W.hasDictIn K C = true
  ha : PySem.W.findIn K (.ref C) "__class__" = some (some (.builtin "object.__class__"))
  hm : PySem.W.mroIn K C (.type "object") = some true
variable {K : PySem.W.Frag} {mg : Str → Option Value}
theorem ClsF.rais {C : Addr} (F : ClsF K C) : Rais K C := ⟨⟨_, _, _, _, PySem.F.excBase_ValueError, F.exc⟩, F.kp, F.sub, F.ty⟩
theorem ClsF.excC {C : Addr} (F : ClsF K C) (hn : PySem.W.specialIn K (.builtin "object.__class__") "__get__" = some (some (.builtin "getset_descriptor.__get__"))) (ht : PySem.W.takesIn K (.builtin "object.__class__") = some true) : ExcC K C :=
  ⟨F.hg, F.hk, F.sub, F.hd, F.ha, hn, ht, F.hm⟩
theorem kitCls_ {D E : Addr} {b : Bool} (F : ClsF K E) (h : PySem.W.subIn K (.ref D) (.ref E) = some b) : PySem.W.kitCls K (.ref D) (.ref E) = some b := by
  have e2 : ((PySem.W.clsIn K E).isSome && PySem.W.typeIn K (.ref E) == some (.type "type")) = true := by
    have h2' : (PySem.W.clsIn K E).isSome = true := F.ic
    rw [h2', F.ty] <;> rfl
  show (if ((PySem.W.clsIn K E).isSome && PySem.W.typeIn K (.ref E) == some (.type "type")) = true then PySem.W.subIn K (.ref D) (.ref E) else none) = some b
  rw [if_pos e2]
  exact h
theorem exm_mk {D E : Addr} (F : ClsF K E) (h : PySem.W.subIn K (.ref D) (.ref E) = some true) : PySem.W.exmOne K (.ref D) (.ref E) = some true := by
  have e1 : (PySem.W.subIn K (.ref E) (.type "BaseException") == some true) = true := by rw [F.sub] <;> rfl
  show (if (PySem.W.subIn K (.ref E) (.type "BaseException") == some true) = true then PySem.W.kitCls K (.ref D) (.ref E) else none) = some true
  rw [if_pos e1]
  exact kitCls_ F h
theorem kit_mk {D E : Addr} {b : Bool} (F : ClsF K E) (h : PySem.W.subIn K (.ref D) (.ref E) = some b) (ne : (if D = E then b else true) = true) : PySem.W.kitOne K (.ref D) (.ref E) = some b := by
  unfold PySem.W.kitOne
  split at ne
  · rename_i e
    subst e
    subst ne
    split
    · rfl
    · exact kitCls_ F h
  · rename_i n
    rw [if_neg]
    · exact kitCls_ F h
    · intro z
      rw [beq_iff_eq] at z
      cases z
      exact n rfl
/-- the defs' places -/
def AdrAt (mg : Str → Option Value) : List Str → List Nat → Prop
  | _, [] => True
  | x :: xs, a :: as => mg x = some (.ref a) ∧ AdrAt mg xs as
  | [], _ :: _ => False
theorem adr_of : ∀ {fns : List Str} {as : List Nat}, AdrAt mg fns as → ∀ (f a : Nat), as[f]? = some a → ∃ x, fns[f]? = some x ∧ mg x = some (.ref a)
  | _, [], _, f, a, h => by simp at h
  | [], _ :: _, z, _, _, _ => z.elim
  | x :: xs, b :: as, z, 0, a, h => by
    simp at h
    subst h
    exact ⟨x, rfl, z.1⟩
  | x :: xs, b :: as, z, f + 1, a, h => by simpa using adr_of z.2 f a (by simpa using h)
def RaisAt (K : PySem.W.Frag) (mg : Str → Option Value) : List Str → List Nat → Prop
  | [], [] => True
  | x :: xs, C :: Cs => (mg x = some (.ref C) ∧ ClsF K C) ∧ RaisAt K mg xs Cs
  | _, _ => False
theorem rais_of : ∀ {kls : List Str} {cls : List Nat}, RaisAt K mg kls cls → ∀ (k : Nat) (x : Str), kls[k]? = some x → ∃ C, mg x = some (.ref C) ∧ cls[k]? = some C ∧ Rais K C
  | [], _, _, k, x, h => by simp at h
  | _ :: _, [], z, _, _, _ => z.elim
  | y :: ys, C :: Cs, z, 0, x, h => by
    simp at h
    subst h
    exact ⟨C, z.1.1, rfl, z.1.2.rais⟩
  | y :: ys, C :: Cs, z, k + 1, x, h => by simpa using rais_of z.2 k x (by simpa using h)
theorem clsF_of : ∀ {kls : List Str} {cls : List Nat}, RaisAt K mg kls cls → ∀ (k C : Nat), cls[k]? = some C → ClsF K C
  | _, [], _, k, C, h => by simp at h
  | [], _ :: _, z, _, _, _ => z.elim
  | y :: ys, C :: Cs, z, 0, D, h => by
    simp at h
    subst h
    exact z.1.2
  | y :: ys, C :: Cs, z, k + 1, D, h => clsF_of z.2 k D (by simpa using h)
/-- which classes lie below E: column k -/
def SubCol (K : PySem.W.Frag) (E k : Nat) : List Nat → List (List Bool) → Prop
  | [], _ => True
  | D :: Ds, r :: rs => (∃ b, r[k]? = some b ∧ PySem.W.subIn K (.ref D) (.ref E) = some b ∧ (if D = E then b else true) = true) ∧ SubCol K E k Ds rs
  | _ :: _, [] => False
theorem subCol_of {E k : Nat} (F : ClsF K E) : ∀ {cls : List Nat} {sub : List (List Bool)}, SubCol K E k cls sub → ∀ (k' D : Nat) (b : Bool), cls[k']? = some D → ((sub[k']?).bind fun r => r[k]?) = some b → PySem.W.kitOne K (.ref D) (.ref E) = some b
  | [], _, _, _, _, _, h, _ => by simp at h
  | _ :: _, [], z, _, _, _, _, _ => z.elim
  | D :: Ds, r :: rs, z, 0, D', b, h, h2 => by
    simp at h h2
    subst h
    obtain ⟨b', e, h3, h4⟩ := z.1
    rw [e] at h2
    cases h2
    exact kit_mk F h3 h4
  | D :: Ds, r :: rs, z, k' + 1, D', b, h, h2 => subCol_of F z.2 k' D' b (by simpa using h) (by simpa using h2)
def EclAt (K : PySem.W.Frag) (mg : Str → Option Value) (cls : List Nat) (sub : List (List Bool)) : Nat → List Str → Prop
  | _, [] => True
  | k, y :: ys => (∃ E, mg y = some (.ref E) ∧ ClsF K E ∧ SubCol K E k cls sub) ∧ EclAt K mg cls sub (k + 1) ys
theorem ecl_of {cls : List Nat} {sub : List (List Bool)} : ∀ {ys : List Str} {n : Nat}, EclAt K mg cls sub n ys → ∀ (k : Nat) (y : Str), ys[k]? = some y → ∃ E, mg y = some (.ref E) ∧ ClsF K E ∧ SubCol K E (n + k) cls sub
  | [], _, _, k, y, h => by simp at h
  | x :: ys, n, z, 0, y, h => by
    simp at h
    subst h
    exact z.1
  | x :: ys, n, z, k + 1, y, h => by
    have := ecl_of z.2 k y (by simpa using h)
    rw [show n + 1 + k = n + (k + 1) by omega] at this
    exact this
/-- every class lies below E -/
def AllSub (K : PySem.W.Frag) (E : Nat) : List Nat → Prop
  | [] => True
  | D :: Ds => PySem.W.subIn K (.ref D) (.ref E) = some true ∧ AllSub K E Ds
theorem allSub_of {E : Nat} (F : ClsF K E) : ∀ {cls : List Nat}, AllSub K E cls → ∀ (k C : Nat), cls[k]? = some C → PySem.W.exmOne K (.ref C) (.ref E) = some true
  | [], _, _, _, h => by simp at h
  | D :: Ds, z, 0, C, h => by
    simp at h
    subst h
    exact exm_mk F z.1
  | D :: Ds, z, k + 1, C, h => allSub_of F z.2 k C (by simpa using h)
def OverAt (K : PySem.W.Frag) (mg : Str → Option Value) (cls : List Nat) : List Grd → Prop
  | [] => True
  | G :: Gs => (∃ E, mg G.cs = some (.ref E) ∧ ClsF K E ∧ AllSub K E cls) ∧ OverAt K mg cls Gs
theorem over_of {cls : List Nat} : ∀ {Gs : List Grd}, OverAt K mg cls Gs → ∀ G ∈ Gs, ∃ CS, (mg G.cs = some CS ∨ (mg G.cs = none ∧ bootBuiltins G.cs = some CS ∧ G.cs ≠ "__name__")) ∧ ∀ (k C : Nat), cls[k]? = some C → PySem.W.exmOne K (.ref C) CS = some true
  | [], _, G, h => by simp at h
  | G' :: Gs, z, G, h => by
    rcases List.mem_cons.mp h with rfl | h
    · obtain ⟨E, hm, F, hs⟩ := z.1
      exact ⟨_, .inl hm, allSub_of F hs⟩
    · exact over_of z.2 G h
theorem clss_mk {cf : Cf} {kls : List Str} {cls : List Nat} {sub : List (List Bool)} (h1 : RaisAt K mg kls cls) (h2 : EclAt K mg cls sub 0 cf.ecl) (hn : PySem.W.specialIn K (.builtin "object.__class__") "__get__" = some (some (.builtin "getset_descriptor.__get__"))) (ht : PySem.W.takesIn K (.builtin "object.__class__") = some true) :
    Clss K mg cf (fun k => cls[k]?) (fun a b => (sub[a]?).bind fun r => r[b]?) := by
  refine ⟨fun k y q => ?_, fun k D h => (clsF_of h1 k D h).excC hn ht⟩
  obtain ⟨E, hm, F, hs⟩ := ecl_of h2 k y q
  rw [Nat.zero_add] at hs
  exact ⟨.ref E, .ref E, ⟨rfl, fun w hw => hw⟩, .inl hm, fun k' D b h3 h4 => subCol_of F hs k' D b h3 h4⟩
/-- the constants -/
def ConAt (mg : Str → Option Value) : List Str → List Val → Prop
  | [], _ => True
  | x :: xs, vs => (∃ u, mg x = some u ∧ ∀ v, vs.head? = some v → flatIs v u) ∧ ConAt mg xs vs.tail
theorem con_of : ∀ {xs : List Str} {vs : List Val}, ConAt mg xs vs → ∀ (i : Nat) (x : Str), xs[i]? = some x → ∃ u, mg x = some u ∧ ∀ v, vs[i]? = some v → flatIs v u
  | [], _, _, _, _, h => by simp at h
  | y :: ys, vs, z, 0, x, h => by
    simp at h
    subst h
    obtain ⟨u, h1, h2⟩ := z.1
    exact ⟨u, h1, fun v hv => h2 v (by rw [List.head?_eq_getElem?]; exact hv)⟩
  | y :: ys, vs, z, i + 1, x, h => by
    obtain ⟨u, h1, h2⟩ := con_of z.2 i x (by simpa using h)
    exact ⟨u, h1, fun v hv => h2 v (by cases vs <;> simpa using hv)⟩
theorem con_mk {h : Heap} {x : Str} {vs : List Val} {u : Value} (c : Val) (X : K.In h) (G : h.Ns mainGlobals mg) (a : PySem.W.nsIn K mainGlobals x = some (some u)) (hc : vs.head? = some c) (q : flatIs c u) : ∃ u, mg x = some u ∧ ∀ v, vs.head? = some v → flatIs v u := ⟨u, PySem.W.mg_of X G a, fun v hv => by rw [hc] at hv; cases hv; exact q⟩
def NonAt (mg : Str → Option Value) : List Str → Prop
  | [] => True
  | x :: xs => mg x = none ∧ NonAt mg xs
theorem non_of : ∀ {xs : List Str}, NonAt mg xs → ∀ x, x ∈ xs → mg x = none
  | [], _, _, h => by simp at h
  | y :: ys, z, x, h => by
    rcases List.mem_cons.mp h with rfl | h
    · exact z.1
    · exact non_of z.2 x h
/-- the code objects, their tables -/
def CsAt (K : PySem.W.Frag) : List (Addr × Addr) → Prop
  | [] => True
  | p :: r => (K.lookup p.2 = none ∧ PySem.W.codeHdIn K p.1 p.2 = true) ∧ CsAt K r
theorem cs_of : ∀ {cs : List (Addr × Addr)}, CsAt K cs → ∀ p ∈ cs, K.lookup p.2 = none ∧ PySem.W.codeHdIn K p.1 p.2 = true
  | [], _, _, h => by simp at h
  | q :: r, z, p, h => by
    rcases List.mem_cons.mp h with rfl | h
    · exact z.1
    · exact cs_of z.2 p h
theorem fin_all {l : PySem.W.OpenLaw} {w : World} {h : Heap} {PG : Prog} {es : List Ent} {Gs : List Grd} {cf : Cf} {k f : Nat} {e : Ent} {fa : Addr} {ts : List Addr} {st0 : Sto} (X : K.In h) (hmg : mg "law" = some (.ref fa))
    (names : cf.fns = es.map (·.x)) (grds : cf.grds = Gs.map (·.g)) (chk : chkAll cf PG.fns es = true) (chkg : chkGs cf es Gs = true) (stb : stB PG = true) (catches : ∀ G ∈ Gs, ∀ e, es[G.g]? = some e → ∀ call b, Catch (ctxOf PG call b) G.g e.N.length G.i G.st G.sr)
    (lies : AllLie K mg es) (cons : ConAt mg cf.cons PG.con) (bis : NonAt mg cf.bis) (adr : AdrAt mg cf.fns PG.adr) (rais : RaisAt K mg cf.kls PG.cls) (over : OverAt K mg PG.cls Gs) (ecl : EclAt K mg PG.cls PG.sub 0 cf.ecl)
    (hn : PySem.W.specialIn K (.builtin "object.__class__") "__get__" = some (some (.builtin "getset_descriptor.__get__"))) (ht : PySem.W.takesIn K (.builtin "object.__class__") = some true)
    (q : es[f]? = some e) (ex : e.x = "law") (ep : e.ps = [PySem.Str.ofString "script"])
    (hb : ∀ (kV doc pm : Value) (an : Option Addr) (cdv ct v : Value), bindArgs (PySem.W.fnOf e.x e.x (defArgs e.st) (defBody e.st) (defScope e.st) .none kV doc pm an cdv ct) ⟨[v], []⟩ = pure [(PySem.Str.ofString "script", v)])
    (hst : stoE es = st0) (told : ∀ ns : List Int, ns.length ≤ 63 → Told (callFn PG k f [.lst false (QE.intVs ns)] st0) ∧ Told (callFn PG k f [.kls ns] st0)) (nd : ((csE es).map (·.2)).Nodup)
    (hts : ∀ p ∈ csE es, p.2 ∈ ts) (hT : ∀ P ∈ ts, h.get? P = some (PySem.W.tabObj #[])) (cs : CsAt K (csE es)) :
    LawAtS l w K (L2N.CX l.prog w) (3 * k) 63 "script" mg fa h := by
  subst hst
  refine fin_mk hmg ⟨names, grds, chk, chkg, lies, con_of cons, non_of bis, adr_of adr, rais_of rais, catches, over_of over, clss_mk rais ecl hn ht, stb⟩ q ex ep hb told nd (fun p hp => hT p.2 (hts p hp)) (fun p hp => (cs_of cs p hp).1) (fun p hp => PySem.W.codeHd_of_K X (cs_of cs p hp).2)
theorem clsF_at {C : Addr} {h : Heap} (X : K.In h) (a : PySem.W.excIn K C [.type "ValueError", .type "Exception", .type "BaseException", .type "object"] "ValueError.__new__" = true) (b : PySem.W.keepIn K (.ref C) = true) (c : PySem.W.subIn K (.ref C) (.type "BaseException") = some true)
    (d : PySem.W.typeIn K (.ref C) = some (.type "type")) (e : PySem.W.isClsIn K C = true) (f : PySem.W.findIn K (.ref C) "__getattribute__" = some (some (.builtin "BaseException.__getattribute__"))) (g : PySem.W.findIn K (.ref C) "__getattr__" = some none)
    (i : PySem.W.hasDictIn K C = true) (j : PySem.W.findIn K (.ref C) "__class__" = some (some (.builtin "object.__class__"))) (k : PySem.W.mroIn K C (.type "object") = some true) : ClsF K C := ⟨a, b, c, d, e, f, g, i, j, k⟩
theorem cx_no {P : Program} {w : World} {H : Hp} {s s' : Shared} {e : Value} (z : L2N.CX P w [] H s (fun _ _ _ => False) e s') : False := by
  obtain ⟨_, _, _, _, _, _, _, _, _, _, _, z⟩ := z
  exact z.2
end QE

set_option linter.all false
set_option maxRecDepth 10000
namespace K10
open QE
abbrev tp__law_seven : Nat := 278
abbrev tp_law : Nat := 283
def adrs : List Nat := [70, 77, 84, 89, 94, 99, 106, 113, 118, 123, 128, 133, 140, 147, 152, 157, 164, 171, 178, 183, 190, 195, 202, 209, 214, 221, 226, 233, 240, 247, 254, 261, 271, 276, 281, 286]
def clss : List Nat := [24, 37, 49, 61]
def grds : List (Nat × Val × List (Option Val)) := [(33, .tup [], [some (.tup []), some (.tup [.str [114, 101, 97, 100, 105, 110, 103, 115]]), some (.tup [.str [99, 111, 115, 116, 115]]), some (.tup [.str [110, 117, 109, 98, 101, 114]])])]
-- the addresses: adr_ of defs and classes, tc_ and tp_ of code objects and tables are given ahead
def lq__law_seven : List Nat := [95, 108, 97, 119, 95, 115, 101, 118, 101, 110, 46, 60, 108, 111, 99, 97, 108, 115, 62, 46, 60, 108, 97, 109, 98, 100, 97, 62]
def lq_law : List Nat := [108, 97, 119, 46, 60, 108, 111, 99, 97, 108, 115, 62, 46, 60, 108, 97, 109, 98, 100, 97, 62]
/-- is_whole: 0 value -/
def d_is_whole : Def := ⟨1, 1, [(.ret (.and [(.isi .int (.var 0)), (.not (.isi .bool (.var 0)))]))]⟩
/-- fits_whole: 0 value 1 low 2 high -/
def d_fits_whole : Def := ⟨3, 3, [(.ret (.and [(.call 0 [(.var 0)]), (.chain .le .le (.var 1) (.var 0) (.var 2))]))]⟩
/-- is_tuple_of: 0 value 1 least 2 most -/
def d_is_tuple_of : Def := ⟨3, 3, [(.ret (.and [(.isi .tuple (.var 0)), (.chain .le .le (.var 1) (.bi .len [(.var 0)]) (.var 2))]))]⟩
/-- is_rising: 0 values 1 one 2 other -/
def d_is_rising : Def := ⟨1, 3, [(.ret (.bi .all [(.comp [1, 2] (.tup [(.name 1), (.name 2)]) (.zip (.var 0) (.slice (.var 0) (some (.lit (.int 1))) none)) [] (.cmp .lt (.var 1) (.var 2)))]))]⟩
/-- fits_gathering: 0 value 1 one -/
def d_fits_gathering : Def := ⟨1, 2, [(.if_ (.or [(.not (.call 2 [(.var 0), (.lit (.int 2)), (.lit (.int 2))])), (.not (.call 1 [(.idx (.var 0) (.lit (.int 0))), (.lit (.int 1)), (.con 0)]))]) [(.ret (.lit (.bl false)))] []), (.if_ (.not (.call 2 [(.idx (.var 0) (.lit (.int 1))), (.lit (.int 1)), (.bin .mul (.lit (.int 2)) (.idx (.var 0) (.lit (.int 0))))])) [(.ret (.lit (.bl false)))] []), (.ret (.and [(.bi .all [(.comp [1] (.name 1) (.it (.idx (.var 0) (.lit (.int 1)))) [] (.call 1 [(.var 1), (.lit (.int 1)), (.bin .mul (.lit (.int 2)) (.idx (.var 0) (.lit (.int 0))))]))]), (.call 3 [(.idx (.var 0) (.lit (.int 1)))])]))]⟩
/-- fits_book: 0 value 1 one -/
def d_fits_book : Def := ⟨1, 2, [(.ret (.and [(.call 2 [(.var 0), (.lit (.int 1)), (.con 1)]), (.bi .all [(.comp [1] (.name 1) (.it (.var 0)) [] (.call 4 [(.var 1)]))])]))]⟩
/-- need_book: 0 value -/
def d_need_book : Def := ⟨1, 1, [(.if_ (.not (.call 5 [(.var 0)])) [(.raise_ 1)] [])]⟩
/-- need_leaf: 0 book 1 value -/
def d_need_leaf : Def := ⟨2, 2, [(.if_ (.not (.call 1 [(.var 1), (.lit (.int 0)), (.bin .sub (.bi .len [(.call 8 [(.var 0)])]) (.lit (.int 1)))])) [(.raise_ 3)] [])]⟩
/-- places_in: 0 book 1 found 2 at 3 sheets 4 present 5 place -/
def d_places_in : Def := ⟨1, 6, [(.asg (.name 1) (.cell (.list []))), (.for_ (.tup [(.name 2), (.tup [(.name 3), (.name 4)])]) (.enum (.var 0)) [(.ext 1 (.comp [5] (.name 5) (.it (.var 4)) [] (.tup [(.var 2), (.var 5)])))]), (.ret (.var 1))]⟩
/-- pairs_in: 0 book 1 places 2 number 3 found 4 leaf 5 at 6 place 7 mate -/
def d_pairs_in : Def := ⟨1, 8, [(.asg (.name 1) (.call 8 [(.var 0)])), (.asg (.name 2) (.dcomp [4, 6] (.tup [(.name 4), (.name 6)]) (.enum (.var 1)) true (.var 6) (.var 4))), (.asg (.name 3) (.cell (.list []))), (.for_ (.tup [(.name 4), (.tup [(.name 5), (.name 6)])]) (.enum (.var 1)) [(.asg (.name 7) (.tup [(.var 5), (.bin .sub (.bin .add (.bin .mul (.lit (.int 2)) (.idx (.idx (.var 0) (.var 5)) (.lit (.int 0)))) (.lit (.int 1))) (.var 6))])), (.if_ (.and [(.cmp .in_ (.var 7) (.var 2)), (.cmp .gt (.idx (.var 2) (.var 7)) (.var 4))]) [(.expr (.append (.var 3) (.tup [(.var 4), (.idx (.var 2) (.var 7))])))] [])]), (.ret (.var 3))]⟩
/-- lone_in: 0 book 1 joined 2 one 3 other 4 leaf -/
def d_lone_in : Def := ⟨1, 5, [(.asg (.name 1) (.cell (.list []))), (.for_ (.tup [(.name 2), (.name 3)]) (.it (.call 9 [(.var 0)])) [(.ext 1 (.list [(.var 2), (.var 3)]))]), (.ret (.comp [4] (.name 4) (.rng1 (.bi .len [(.call 8 [(.var 0)])])) [(.cmp .nin (.var 4) (.var 1))] (.var 4)))]⟩
/-- fits_marks: 0 many 1 value 2 named 3 pair 4 one 5 other -/
def d_fits_marks : Def := ⟨2, 6, [(.if_ (.or [(.not (.call 2 [(.var 1), (.lit (.int 2)), (.lit (.int 2))])), (.not (.call 2 [(.idx (.var 1) (.lit (.int 0))), (.lit (.int 0)), (.var 0)])), (.not (.call 2 [(.idx (.var 1) (.lit (.int 1))), (.lit (.int 0)), (.var 0)]))]) [(.ret (.lit (.bl false)))] []), (.if_ (.not (.bi .all [(.comp [3] (.name 3) (.it (.idx (.var 1) (.lit (.int 0)))) [] (.call 2 [(.var 3), (.lit (.int 2)), (.lit (.int 2))]))])) [(.ret (.lit (.bl false)))] []), (.asg (.name 2) (.cell (.list []))), (.for_ (.name 3) (.it (.idx (.var 1) (.lit (.int 0)))) [(.ext 2 (.bi .list [(.var 3)]))]), (.if_ (.not (.bi .all [(.comp [4] (.name 4) (.it (.bin .add (.var 2) (.bi .list [(.idx (.var 1) (.lit (.int 1)))]))) [] (.call 1 [(.var 4), (.lit (.int 0)), (.bin .sub (.var 0) (.lit (.int 1)))]))])) [(.ret (.lit (.bl false)))] []), (.if_ (.or [(.not (.bi .all [(.comp [4, 5] (.tup [(.name 4), (.name 5)]) (.it (.idx (.var 1) (.lit (.int 0)))) [] (.cmp .lt (.var 4) (.var 5)))])), (.not (.call 3 [(.idx (.var 1) (.lit (.int 0)))])), (.not (.call 3 [(.idx (.var 1) (.lit (.int 1)))]))]) [(.ret (.lit (.bl false)))] []), (.ret (.bi .all [(.comp [4] (.name 4) (.it (.bin .add (.var 2) (.bi .list [(.idx (.var 1) (.lit (.int 1)))]))) [] (.cmp .eq (.meth .count (.bin .add (.var 2) (.bi .list [(.idx (.var 1) (.lit (.int 1)))])) (.var 4)) (.lit (.int 1))))]))]⟩
/-- need_marks: 0 many 1 marks -/
def d_need_marks : Def := ⟨2, 2, [(.if_ (.not (.call 1 [(.var 0), (.lit (.int 1)), (.con 2)])) [(.raise_ 3)] []), (.if_ (.not (.call 11 [(.var 0), (.var 1)])) [(.raise_ 2)] [])]⟩
/-- need_most: 0 value -/
def d_need_most : Def := ⟨1, 1, [(.if_ (.not (.call 1 [(.var 0), (.lit (.int 1)), (.con 0)])) [(.raise_ 3)] [])]⟩
/-- choices: 0 marks 1 low 2 high 3 mates 4 found 5 one 6 other -/
def d_choices : Def := ⟨3, 7, [(.asg (.name 3) (.bi .dict [(.bin .add (.bi .list [(.idx (.var 0) (.lit (.int 0)))]) (.comp [5, 6] (.tup [(.name 5), (.name 6)]) (.it (.idx (.var 0) (.lit (.int 0)))) [] (.tup [(.var 6), (.var 5)])))])), (.asg (.name 4) (.cell (.list []))), (.if_ (.and [(.cmp .gt (.bin .sub (.var 2) (.var 1)) (.lit (.int 1))), (.cmp .eq (.get (.var 3) (.var 1) (.bin .sub (.var 2) (.lit (.int 1)))) (.bin .sub (.var 2) (.lit (.int 1)))), (.cmp .eq (.get (.var 3) (.bin .sub (.var 2) (.lit (.int 1))) (.var 1)) (.var 1))]) [(.if_ (.and [(.cmp .nin (.var 1) (.idx (.var 0) (.lit (.int 1)))), (.cmp .nin (.bin .sub (.var 2) (.lit (.int 1))) (.idx (.var 0) (.lit (.int 1))))]) [(.expr (.append (.var 4) (.tup [(.lit (.str [98, 111, 116, 104])), (.bin .add (.var 1) (.lit (.int 1))), (.bin .sub (.var 2) (.lit (.int 1))), (.lit (.int 0))])))] [])] []), (.if_ (.cmp .nin (.var 1) (.var 3)) [(.expr (.append (.var 4) (.tup [(.lit (.str [108, 101, 102, 116])), (.bin .add (.var 1) (.lit (.int 1))), (.var 2), (.lit (.int 1))])))] []), (.if_ (.cmp .nin (.bin .sub (.var 2) (.lit (.int 1))) (.var 3)) [(.expr (.append (.var 4) (.tup [(.lit (.str [114, 105, 103, 104, 116])), (.var 1), (.bin .sub (.var 2) (.lit (.int 1))), (.lit (.int 1))])))] []), (.ret (.var 4))]⟩
/-- folds: 0 many 1 marks 2 most 3 least 4 size 5 low 6 costs 7 at 8 word 9 one 10 other 11 cost -/
def d_folds : Def := ⟨3, 12, [(.asg (.name 3) (.cell (.dcomp [7] (.name 7) (.rng1 (.bin .add (.var 0) (.lit (.int 1)))) true (.tup [(.var 7), (.var 7)]) (.lit (.int 0))))), (.for_ (.name 4) (.rng2 (.lit (.int 1)) (.bin .add (.bi .min2 [(.var 0), (.bin .mul (.lit (.int 2)) (.var 2))]) (.lit (.int 1)))) [(.for_ (.name 5) (.rng1 (.bin .add (.bin .sub (.var 0) (.var 4)) (.lit (.int 1)))) [(.asg (.name 6) (.comp [8, 9, 10, 11] (.tup [(.name 8), (.name 9), (.name 10), (.name 11)]) (.it (.call 14 [(.var 1), (.var 5), (.bin .add (.var 5) (.var 4))])) [(.cmp .in_ (.tup [(.var 9), (.var 10)]) (.var 3))] (.bin .add (.idx (.var 3) (.tup [(.var 9), (.var 10)])) (.var 11)))), (.if_ (.cmp .ne (.var 6) (.list [])) [(.setIx (.var 3) (.tup [(.var 5), (.bin .add (.var 5) (.var 4))]) (.bi .minL [(.var 6)]))] [])])]), (.ret (.var 3))]⟩
/-- bests: 0 many 1 marks 2 most 3 least 4 found 5 high 6 options 7 low -/
def d_bests : Def := ⟨3, 8, [(.asg (.name 3) (.call 15 [(.var 0), (.var 1), (.var 2)])), (.asg (.name 4) (.cell (.d1 false (.lit (.int 0)) (.tup [(.lit (.int 0)), (.lit (.int 0))])))), (.for_ (.name 5) (.rng2 (.lit (.int 1)) (.bin .add (.var 0) (.lit (.int 1)))) [(.asg (.name 6) (.cell (.list []))), (.for_ (.name 7) (.rng2 (.bi .max2 [(.lit (.int 0)), (.bin .sub (.var 5) (.bin .mul (.lit (.int 2)) (.var 2)))]) (.var 5)) [(.if_ (.and [(.cmp .in_ (.var 7) (.var 4)), (.cmp .in_ (.tup [(.var 7), (.var 5)]) (.var 3)), (.cmp .le (.bin .sub (.bin .add (.idx (.var 3) (.tup [(.var 7), (.var 5)])) (.var 5)) (.var 7)) (.bin .mul (.lit (.int 2)) (.var 2)))]) [(.expr (.append (.var 6) (.tup [(.bin .add (.idx (.idx (.var 4) (.var 7)) (.lit (.int 0))) (.idx (.var 3) (.tup [(.var 7), (.var 5)]))), (.var 7)])))] [])]), (.if_ (.cmp .ne (.var 6) (.list [])) [(.setIx (.var 4) (.var 5) (.bi .minL [(.var 6)]))] [])]), (.ret (.var 4))]⟩
/-- gathering_in: 0 marks 1 least 2 low 3 high 4 sheets 5 left 6 right 7 sheet 8 word 9 one 10 other 11 cost -/
def d_gathering_in : Def := ⟨4, 12, [(.asg (.name 4) (.bin .fdiv (.bin .add (.bin .sub (.var 3) (.var 2)) (.idx (.var 1) (.tup [(.var 2), (.var 3)]))) (.lit (.int 2)))), (.par [5, 6, 7] [(.cell (.list [])), (.list []), (.lit (.int 1))]), (.while_ (.cmp .lt (.var 2) (.var 3)) [(.for_ (.tup [(.name 8), (.name 9), (.name 10), (.name 11)]) (.it (.call 14 [(.var 0), (.var 2), (.var 3)])) [(.if_ (.and [(.cmp .in_ (.tup [(.var 9), (.var 10)]) (.var 1)), (.cmp .eq (.bin .add (.idx (.var 1) (.tup [(.var 9), (.var 10)])) (.var 11)) (.idx (.var 1) (.tup [(.var 2), (.var 3)])))]) [.brk] [])]), (.ext 5 (.ite (.cmp .in_ (.var 8) (.tup [(.lit (.str [98, 111, 116, 104])), (.lit (.str [108, 101, 102, 116]))])) (.list [(.var 7)]) (.list []))), (.asg (.name 6) (.bin .add (.ite (.cmp .in_ (.var 8) (.tup [(.lit (.str [98, 111, 116, 104])), (.lit (.str [114, 105, 103, 104, 116]))])) (.list [(.bin .sub (.bin .add (.bin .mul (.lit (.int 2)) (.var 4)) (.lit (.int 1))) (.var 7))]) (.list [])) (.var 6))), (.par [2, 3, 7] [(.var 9), (.var 10), (.bin .add (.var 7) (.lit (.int 1)))])]), (.ret (.tup [(.var 4), (.bi .tuple [(.bin .add (.var 5) (.var 6))])]))]⟩
/-- leaves_many: 0 book -/
def d_leaves_many : Def := ⟨1, 1, [(.xcall (.call 6 [(.var 0)])), (.ret (.bi .len [(.call 8 [(.var 0)])]))]⟩
/-- lost_many: 0 book 1 sheets 2 present -/
def d_lost_many : Def := ⟨1, 3, [(.xcall (.call 6 [(.var 0)])), (.ret (.bi .sum [(.comp [1, 2] (.tup [(.name 1), (.name 2)]) (.it (.var 0)) [] (.bin .sub (.bin .mul (.lit (.int 2)) (.var 1)) (.bi .len [(.var 2)])))]))]⟩
/-- place_of: 0 book 1 leaf -/
def d_place_of : Def := ⟨2, 2, [(.xcall (.call 6 [(.var 0)])), (.xcall (.call 7 [(.var 0), (.var 1)])), (.ret (.idx (.call 8 [(.var 0)]) (.var 1)))]⟩
/-- mate_of: 0 book 1 leaf 2 found 3 one 4 other -/
def d_mate_of : Def := ⟨2, 5, [(.xcall (.call 6 [(.var 0)])), (.xcall (.call 7 [(.var 0), (.var 1)])), (.asg (.name 2) (.comp [3, 4] (.tup [(.name 3), (.name 4)]) (.it (.call 9 [(.var 0)])) [(.cmp .in_ (.var 1) (.tup [(.var 3), (.var 4)]))] (.ite (.cmp .eq (.var 3) (.var 1)) (.var 4) (.var 3)))), (.ret (.ite (.cmp .ne (.var 2) (.list [])) (.idx (.var 2) (.lit (.int 0))) (.lit .non)))]⟩
/-- marks_of: 0 book -/
def d_marks_of : Def := ⟨1, 1, [(.xcall (.call 6 [(.var 0)])), (.ret (.tup [(.bi .tuple [(.call 9 [(.var 0)])]), (.bi .tuple [(.call 10 [(.var 0)])])]))]⟩
/-- sides_of: 0 book 1 leaf 2 at 3 place 4 sheet 5 outer 6 inner -/
def d_sides_of : Def := ⟨2, 7, [(.xcall (.call 6 [(.var 0)])), (.xcall (.call 7 [(.var 0), (.var 1)])), (.asg (.tup [(.name 2), (.name 3)]) (.idx (.call 8 [(.var 0)]) (.var 1))), (.asg (.name 4) (.bi .min2 [(.var 3), (.bin .sub (.bin .add (.bin .mul (.lit (.int 2)) (.idx (.idx (.var 0) (.var 2)) (.lit (.int 0)))) (.lit (.int 1))) (.var 3))])), (.asg (.tup [(.name 5), (.name 6)]) (.ite (.cmp .eq (.bin .mod (.var 4) (.lit (.int 2))) (.lit (.int 1))) (.tup [(.lit (.str [104])), (.lit (.str [102]))]) (.tup [(.lit (.str [102])), (.lit (.str [104]))]))), (.ret (.ite (.cmp .eq (.var 3) (.var 4)) (.tup [(.var 5), (.var 6)]) (.tup [(.var 6), (.var 5)])))]⟩
/-- unlike_openings: 0 book 1 sides 2 leaf 3 at -/
def d_unlike_openings : Def := ⟨1, 4, [(.xcall (.call 6 [(.var 0)])), (.asg (.name 1) (.comp [2] (.name 2) (.rng1 (.bi .len [(.call 8 [(.var 0)])])) [] (.call 23 [(.var 0), (.var 2)]))), (.ret (.bi .tuple [(.comp [3] (.name 3) (.rng1 (.bin .sub (.bi .len [(.var 1)]) (.lit (.int 1)))) [(.cmp .ne (.idx (.idx (.var 1) (.var 3)) (.lit (.int 1))) (.idx (.idx (.var 1) (.bin .add (.var 3) (.lit (.int 1)))) (.lit (.int 0))))] (.var 3))]))]⟩
/-- are_marks: 0 many 1 value -/
def d_are_marks : Def := ⟨2, 2, [(.if_ (.not (.call 1 [(.var 0), (.lit (.int 1)), (.con 2)])) [(.raise_ 3)] []), (.ret (.call 11 [(.var 0), (.var 1)]))]⟩
/-- does_fit: 0 book 1 marks 2 own 3 lone 4 pair 5 leaf -/
def d_does_fit : Def := ⟨2, 6, [(.xcall (.call 6 [(.var 0)])), (.if_ (.cmp .gt (.bi .len [(.call 8 [(.var 0)])]) (.con 2)) [(.raise_ 1)] []), (.if_ (.not (.call 11 [(.bi .len [(.call 8 [(.var 0)])]), (.var 1)])) [(.raise_ 2)] []), (.asg (.tup [(.name 2), (.name 3)]) (.tup [(.call 9 [(.var 0)]), (.call 10 [(.var 0)])])), (.ret (.and [(.bi .all [(.comp [4] (.name 4) (.it (.idx (.var 1) (.lit (.int 0)))) [] (.cmp .in_ (.var 4) (.var 2)))]), (.bi .all [(.comp [5] (.name 5) (.it (.idx (.var 1) (.lit (.int 1)))) [] (.cmp .in_ (.var 5) (.var 3)))])]))]⟩
/-- fewest_lost: 0 many 1 marks 2 most 3 found -/
def d_fewest_lost : Def := ⟨3, 4, [(.xcall (.call 12 [(.var 0), (.var 1)])), (.xcall (.call 13 [(.var 2)])), (.asg (.name 3) (.call 16 [(.var 0), (.var 1), (.var 2)])), (.ret (.ite (.cmp .in_ (.var 0) (.var 3)) (.idx (.idx (.var 3) (.var 0)) (.lit (.int 0))) (.lit .non)))]⟩
/-- best_book: 0 many 1 marks 2 most 3 found 4 least 5 book 6 high 7 low -/
def d_best_book : Def := ⟨3, 8, [(.xcall (.call 12 [(.var 0), (.var 1)])), (.xcall (.call 13 [(.var 2)])), (.par [3, 4] [(.call 16 [(.var 0), (.var 1), (.var 2)]), (.call 15 [(.var 0), (.var 1), (.var 2)])]), (.if_ (.cmp .nin (.var 0) (.var 3)) [(.ret (.lit .non))] []), (.par [5, 6] [(.tup []), (.var 0)]), (.while_ (.cmp .gt (.var 6) (.lit (.int 0))) [(.asg (.name 7) (.idx (.idx (.var 3) (.var 6)) (.lit (.int 1)))), (.asg (.name 5) (.bin .add (.tup [(.call 17 [(.var 1), (.var 4), (.var 7), (.var 6)])]) (.var 5))), (.asg (.name 6) (.var 7))]), (.ret (.var 5))]⟩
/-- _law_cup: 0 script 1 cell -/
def d__law_cup : Def := ⟨1, 2, [(.asg (.name 1) (.bi .abs [(.idx (.bin .add (.bi .list [(.var 0)]) (.list [(.lit (.int 0))])) (.lit (.int 0)))])), (.ret (.list [(.ite (.cmp .ge (.var 1) (.bin .pow (.lit (.int 10)) (.lit (.int 18)))) (.bin .fdiv (.var 1) (.lit (.int 107))) (.lit (.int 0))), (.bin .add (.bin .mod (.bi .int [(.bin .add (.bin .mul (.var 1) (.lit (.int 317))) (.lit (.int 4007)))]) (.lit (.int 2077502471))) (.lit (.int 227)))]))]⟩
/-- _law_roll: 0 cup 1 many 2 found 3 deep -/
def d__law_roll : Def := ⟨2, 4, [(.if_ (.cmp .gt (.idx (.var 0) (.lit (.int 0))) (.lit (.int 0))) [(.asg (.name 2) (.bin .mod (.bi .int [(.idx (.var 0) (.lit (.int 0)))]) (.var 1))), (.setIx (.var 0) (.lit (.int 0)) (.bin .fdiv (.idx (.var 0) (.lit (.int 0))) (.var 1))), (.ret (.var 2))] []), (.setIx (.var 0) (.lit (.int 1)) (.bin .mod (.bi .int [(.bin .add (.bin .mul (.idx (.var 0) (.lit (.int 1))) (.lit (.int 31033))) (.lit (.int 8017)))]) (.lit (.int 2147483579)))), (.asg (.name 3) (.bin .mod (.bi .int [(.bin .mul (.idx (.var 0) (.lit (.int 1))) (.bin .add (.idx (.var 0) (.lit (.int 1))) (.lit (.int 307))))]) (.lit (.int 2147483059)))), (.ret (.bin .mod (.bi .int [(.bin .fdiv (.var 3) (.lit (.int 823)))]) (.var 1)))]⟩
/-- _law_some: 0 cup 1 things -/
def d__law_some : Def := ⟨2, 2, [(.ret (.idx (.var 1) (.call 30 [(.var 0), (.bi .len [(.var 1)])])))]⟩
/-- _law_book: 0 cup 1 most 2 sheets 3 found 4 turn 5 many 6 present 7 place -/
def d__law_book : Def := ⟨3, 8, [(.asg (.name 3) (.tup [])), (.for_ (.name 4) (.rng1 (.bin .add (.lit (.int 1)) (.call 30 [(.var 0), (.var 1)]))) [(.asg (.name 5) (.bin .add (.lit (.int 1)) (.call 30 [(.var 0), (.var 2)]))), (.asg (.name 6) (.bi .tuple [(.comp [7] (.name 7) (.rng2 (.lit (.int 1)) (.bin .add (.bin .mul (.lit (.int 2)) (.var 5)) (.lit (.int 1)))) [(.cmp .gt (.call 30 [(.var 0), (.lit (.int 4))]) (.lit (.int 0)))] (.var 7))])), (.asg (.name 3) (.bin .add (.var 3) (.tup [(.tup [(.var 5), (.ite (.cmp .ne (.var 6) (.tup [])) (.var 6) (.tup [(.bin .add (.lit (.int 1)) (.call 30 [(.var 0), (.bin .mul (.lit (.int 2)) (.var 5))]))]))])])))]), (.ret (.var 3))]⟩
/-- _law_word: 0 call 1 error 2 told 3 word 4 is_so -/
def d__law_word : Def := ⟨1, 5, [.opq, .opq]⟩
def gst__law_word : List Stm := [(.asg (.name 2) (.list [(.isx (.var 1) 0), (.isx (.var 1) 1), (.isx (.var 1) 2)])), (.ret (.bi .tuple [(.comp [3, 4] (.tup [(.name 3), (.name 4)]) (.zipL (.list [(.lit (.str [99, 111, 115, 116, 115])), (.lit (.str [110, 117, 109, 98, 101, 114])), (.lit (.str [114, 101, 97, 100, 105, 110, 103, 115]))]) (.var 2)) [(.var 4)] (.var 3))]))]
def gsr__law_word : List Stm := [(.ret (.tup []))]
/-- _law_seven: 0 book 1 leaf 2 found 3 call -/
def d__law_seven : Def := ⟨2, 4, [(.asg (.name 2) (.comp [3] (.name 3) (.it (.tup [(.fn 18), (.fn 19), (.fn 22), (.fn 24)])) [] (.guard 33 0 tp__law_seven lq__law_seven (.callV 3 [(.var 0)])))), (.ret (.bin .add (.var 2) (.comp [3] (.name 3) (.it (.tup [(.fn 20), (.fn 21), (.fn 23)])) [] (.guard 33 0 tp__law_seven lq__law_seven (.callV 3 [(.var 0), (.var 1)])))))]⟩
/-- law: 0 script 1 cup 2 turn 3 book 4 many 5 bad 6 leaf 7 good 8 some 9 odd 10 off 11 size 12 words 13 sheets 14 present 15 call 16 value -/
def d_law : Def := ⟨1, 17, [(.asg (.name 1) (.cell (.call 29 [(.var 0)]))), (.for_ (.name 2) (.rng1 (.lit (.int 4))) [(.asg (.name 3) (.call 32 [(.var 1), (.lit (.int 4)), (.lit (.int 4))])), (.asg (.name 4) (.bi .sum [(.comp [13, 14] (.tup [(.name 13), (.name 14)]) (.it (.var 3)) [] (.bi .len [(.var 14)]))])), (.asg (.name 5) (.call 31 [(.var 1), (.list [(.lit .non), (.tup []), (.bi .list [(.var 3)]), (.bin .add (.var 3) (.tup [(.lit .non)])), (.tup [(.tup [(.lit (.int 9)), (.tup [(.lit (.int 1))])])]), (.tup [(.tup [(.lit (.int 1)), (.tup [])])]), (.tup [(.tup [(.lit (.int 1)), (.tup [(.lit (.int 2)), (.lit (.int 1))])])]), (.tup [(.tup [(.lit (.int 1)), (.tup [(.lit (.int 3))])])])])])), (.asg (.name 6) (.call 31 [(.var 1), (.list [(.lit .non), (.neg (.lit (.int 1))), (.var 4), (.lit (.bl true)), (.lit (.str [48])), (.tup [(.lit (.int 0))])])])), (.if_ (.or [(.cmp .ne (.call 34 [(.var 5), (.var 6)]) (.bin .mul (.list [(.tup [(.lit (.str [114, 101, 97, 100, 105, 110, 103, 115]))])]) (.lit (.int 7)))), (.cmp .ne (.call 34 [(.var 3), (.var 6)]) (.bin .add (.bin .mul (.list [(.tup [])]) (.lit (.int 4))) (.bin .mul (.list [(.tup [(.lit (.str [110, 117, 109, 98, 101, 114]))])]) (.lit (.int 3))))), (.cmp .ne (.call 34 [(.var 3), (.call 30 [(.var 1), (.var 4)])]) (.bin .mul (.list [(.tup [])]) (.lit (.int 7))))]) [(.ret (.lit (.bl false)))] []), (.asg (.name 7) (.list [(.tup [(.tup []), (.tup [])]), (.tup [(.tup [(.tup [(.lit (.int 0)), (.lit (.int 1))])]), (.tup [(.lit (.int 2))])]), (.tup [(.tup [(.tup [(.lit (.int 0)), (.lit (.int 3))]), (.tup [(.lit (.int 1)), (.lit (.int 2))])]), (.tup [])]), (.tup [(.tup []), (.tup [(.lit (.int 0)), (.lit (.int 1)), (.lit (.int 2)), (.lit (.int 3))])])])), (.asg (.name 8) (.list [(.lit .non), (.list [(.tup []), (.tup [])]), (.tup [(.tup [])]), (.tup [(.tup []), (.tup []), (.tup [])]), (.tup [(.tup [(.tup [(.lit (.int 0)), (.lit (.int 0))])]), (.tup [])]), (.tup [(.tup [(.tup [(.lit (.int 1)), (.lit (.int 0))])]), (.tup [])]), (.tup [(.tup [(.tup [(.lit (.int 0)), (.lit (.int 4))])]), (.tup [])]), (.tup [(.tup [(.tup [(.neg (.lit (.int 1))), (.lit (.int 0))])]), (.tup [])]), (.tup [(.tup [(.tup [(.lit (.int 0)), (.lit (.int 1))]), (.tup [(.lit (.int 0)), (.lit (.int 2))])]), (.tup [])]), (.tup [(.tup [(.tup [(.lit (.int 0)), (.lit (.int 1))]), (.tup [(.lit (.int 1)), (.lit (.int 2))])]), (.tup [])])])), (.asg (.name 8) (.bin .add (.var 8) (.list [(.tup [(.tup [(.tup [(.lit (.int 0)), (.lit (.int 1))])]), (.tup [(.lit (.int 1))])]), (.tup [(.tup [(.tup [(.lit (.int 2)), (.lit (.int 3))]), (.tup [(.lit (.int 0)), (.lit (.int 1))])]), (.tup [])]), (.tup [(.tup []), (.tup [(.lit (.int 1)), (.lit (.int 0))])]), (.tup [(.tup []), (.tup [(.lit (.int 0)), (.lit (.int 0))])]), (.tup [(.tup []), (.tup [(.lit (.int 4))])]), (.tup [(.tup []), (.list [(.lit (.int 0))])]), (.tup [(.list [(.tup [(.lit (.int 0)), (.lit (.int 1))])]), (.tup [])]), (.tup [(.tup [(.tup [(.lit (.int 0)), (.lit (.int 1)), (.lit (.int 2))])]), (.tup [])]), (.tup [(.tup [(.tup [(.lit (.int 0)), (.lit (.bl true))])]), (.tup [])]), (.tup [(.tup [(.lit .non)]), (.tup [])]), (.tup [(.tup []), (.tup [(.lit (.str [48]))])])]))), (.if_ (.or [(.cmp .ne (.comp [16] (.name 16) (.it (.var 7)) [(.cmp .isn (.call 25 [(.lit (.int 4)), (.var 16)]) (.lit (.bl true)))] (.var 16)) (.list [])), (.cmp .ne (.comp [16] (.name 16) (.it (.var 8)) [(.cmp .isn (.call 25 [(.lit (.int 4)), (.var 16)]) (.lit (.bl false)))] (.var 16)) (.list []))]) [(.ret (.lit (.bl false)))] []), (.asg (.tup [(.name 9), (.name 10), (.name 11)]) (.tup [(.call 31 [(.var 1), (.var 8)]), (.call 31 [(.var 1), (.list [(.lit .non), (.lit (.int 0)), (.lit (.int 41)), (.neg (.lit (.int 1))), (.lit (.bl true)), (.lit (.str [52]))])]), (.call 31 [(.var 1), (.list [(.lit .non), (.lit (.int 0)), (.lit (.int 9)), (.lit (.bl true)), (.lit (.str [50]))])])])), (.asg (.name 12) (.cell (.list [(.guard 33 1 tp_law lq_law (.call 25 [(.var 10), (.lit .non)]))]))), (.asg (.name 12) (.cell (.bin .add (.var 12) (.comp [15] (.name 15) (.it (.tup [(.fn 27), (.fn 28)])) [] (.guard 33 1 tp_law lq_law (.callV 15 [(.var 10), (.var 9), (.var 11)])))))), (.asg (.name 12) (.cell (.bin .add (.var 12) (.comp [15] (.name 15) (.it (.tup [(.fn 27), (.fn 28)])) [] (.guard 33 1 tp_law lq_law (.callV 15 [(.lit (.int 4)), (.var 9), (.var 11)])))))), (.asg (.name 12) (.cell (.bin .add (.var 12) (.comp [15] (.name 15) (.it (.tup [(.fn 27), (.fn 28)])) [] (.guard 33 1 tp_law lq_law (.callV 15 [(.lit (.int 4)), (.idx (.var 7) (.lit (.int 1))), (.var 11)])))))), (.if_ (.cmp .ne (.var 12) (.bin .add (.bin .add (.bin .mul (.list [(.tup [(.lit (.str [110, 117, 109, 98, 101, 114]))])]) (.lit (.int 3))) (.bin .mul (.list [(.tup [(.lit (.str [99, 111, 115, 116, 115]))])]) (.lit (.int 2)))) (.bin .mul (.list [(.tup [(.lit (.str [110, 117, 109, 98, 101, 114]))])]) (.lit (.int 2))))) [(.ret (.lit (.bl false)))] []), (.asg (.name 12) (.cell (.list [(.guard 33 1 tp_law lq_law (.call 26 [(.var 5), (.var 9)]))]))), (.expr (.append (.var 12) (.guard 33 1 tp_law lq_law (.call 26 [(.bin .mul (.tup [(.tup [(.lit (.int 8)), (.trng (.lit (.int 1)) (.lit (.int 17)))])]) (.lit (.int 3))), (.tup [(.tup []), (.tup [])])])))), (.expr (.append (.var 12) (.guard 33 1 tp_law lq_law (.call 26 [(.tup [(.tup [(.lit (.int 2)), (.tup [(.lit (.int 1)), (.lit (.int 2)), (.lit (.int 3)), (.lit (.int 4))])])]), (.var 9)])))), (.expr (.append (.var 12) (.guard 33 1 tp_law lq_law (.call 26 [(.tup [(.tup [(.lit (.int 2)), (.tup [(.lit (.int 1)), (.lit (.int 2)), (.lit (.int 3)), (.lit (.int 4))])])]), (.call 31 [(.var 1), (.var 7)])])))), (.if_ (.cmp .ne (.var 12) (.list [(.tup [(.lit (.str [114, 101, 97, 100, 105, 110, 103, 115]))]), (.tup [(.lit (.str [114, 101, 97, 100, 105, 110, 103, 115]))]), (.tup [(.lit (.str [99, 111, 115, 116, 115]))]), (.tup [])])) [(.ret (.lit (.bl false)))] [])]), (.asg (.name 12) (.cell (.list [(.guard 33 1 tp_law lq_law (.call 27 [(.lit (.int 40)), (.tup [(.tup []), (.tup [])]), (.lit (.int 8))]))]))), (.expr (.append (.var 12) (.guard 33 1 tp_law lq_law (.call 27 [(.lit (.int 1)), (.tup [(.tup []), (.tup [(.lit (.int 0))])]), (.lit (.int 1))])))), (.ret (.cmp .eq (.var 12) (.bin .mul (.list [(.tup [])]) (.lit (.int 2)))))]⟩
def cons : List Val := [(.int 8), (.int 40), (.int 40)]
def sub : List (List Bool) := [[false, false, false], [false, false, true], [true, false, false], [false, true, false]]
def prog : Prog := { fns := [d_is_whole, d_fits_whole, d_is_tuple_of, d_is_rising, d_fits_gathering, d_fits_book, d_need_book, d_need_leaf, d_places_in, d_pairs_in, d_lone_in, d_fits_marks, d_need_marks, d_need_most, d_choices, d_folds, d_bests, d_gathering_in, d_leaves_many, d_lost_many, d_place_of, d_mate_of, d_marks_of, d_sides_of, d_unlike_openings, d_are_marks, d_does_fit, d_fewest_lost, d_best_book, d__law_cup, d__law_roll, d__law_some, d__law_book, d__law_word, d__law_seven, d_law], con := cons, fuel := 100000, adr := adrs, cls := clss, sub := sub, grd := grds }
abbrev f_is_whole : Nat := 0
abbrev f_fits_whole : Nat := 1
abbrev f_is_tuple_of : Nat := 2
abbrev f_is_rising : Nat := 3
abbrev f_fits_gathering : Nat := 4
abbrev f_fits_book : Nat := 5
abbrev f_need_book : Nat := 6
abbrev f_need_leaf : Nat := 7
abbrev f_places_in : Nat := 8
abbrev f_pairs_in : Nat := 9
abbrev f_lone_in : Nat := 10
abbrev f_fits_marks : Nat := 11
abbrev f_need_marks : Nat := 12
abbrev f_need_most : Nat := 13
abbrev f_choices : Nat := 14
abbrev f_folds : Nat := 15
abbrev f_bests : Nat := 16
abbrev f_gathering_in : Nat := 17
abbrev f_leaves_many : Nat := 18
abbrev f_lost_many : Nat := 19
abbrev f_place_of : Nat := 20
abbrev f_mate_of : Nat := 21
abbrev f_marks_of : Nat := 22
abbrev f_sides_of : Nat := 23
abbrev f_unlike_openings : Nat := 24
abbrev f_are_marks : Nat := 25
abbrev f_does_fit : Nat := 26
abbrev f_fewest_lost : Nat := 27
abbrev f_best_book : Nat := 28
abbrev f__law_cup : Nat := 29
abbrev f__law_roll : Nat := 30
abbrev f__law_some : Nat := 31
abbrev f__law_book : Nat := 32
abbrev f__law_word : Nat := 33
abbrev f__law_seven : Nat := 34
abbrev f_law : Nat := 35

def sto0 : Sto := [.tbl 278 lq__law_seven, .tbl 283 lq_law]
end K10

set_option linter.all false
set_option maxRecDepth 10000
/-! Runs of the evaluator over data that is not known. -/
namespace QE
@[simp] theorem R.bind_okS {α β : Type} (a : α) (S : Sto) (f : α → Sto → R β) : (R.ok a S).bind f = f a S := by exact id rfl
@[simp] theorem R.calm_okS {α : Type} (a : α) (S : Sto) : (R.ok a S).calm = .ok a S := by exact id rfl
@[simp] theorem R.bind_excS {α β : Type} (k : Nat) (ps : List Val) (S : Sto) (f : α → Sto → R β) : (R.exc k ps S : R α).bind f = .exc k ps S := by exact id rfl
@[simp] theorem R.bind_badS {α β : Type} (f : α → Sto → R β) : (R.bad : R α).bind f = .bad := by exact id rfl
@[simp] theorem guard_ok (c : Ctx) (g : Nat) (v : Val) (S : Sto) : guardR c g (.ok v S) = R.of (c.gok g) S := by exact id rfl
@[simp] theorem guard_exc (c : Ctx) (g k : Nat) (ps : List Val) (S : Sto) : guardR c g (.exc k ps S) = R.of (c.gx g k) S := by exact id rfl
@[simp] theorem R.of_some {α : Type} (a : α) (S : Sto) : R.of (some a) S = .ok a S := by exact id rfl
@[simp] theorem R.ite_ok {α : Type} {p : Prop} [Decidable p] (a b : α) (S : Sto) : (if p then R.ok a S else R.ok b S) = R.ok (if p then a else b) S := by split <;> rfl
@[simp] theorem len_le_self {α : Type} (S : List α) : (S.length ≤ S.length) = True := by simp
theorem comp_run {α : Type} {tg : T} {test : Env → Sto → R Bool} {elt : Env → Sto → R Val} {env : Env} {S : Sto} (e : α → Val) (p : α → Bool) (g : α → Val) :
    ∀ (xs : List α), (∀ a ∈ xs, ∃ env', bindT tg (e a) env = some env' ∧ test env' S = .ok (p a) S ∧ (p a = true → elt env' S = .ok (g a) S)) →
    compLoop tg test elt env (xs.map e) S = .ok ((xs.filter p).map fun a => (g a).settle) S
  | [], _ => rfl
  | x :: xs, h => by
    obtain ⟨env', h1, h2, h3⟩ := h x (by simp)
    have ih := comp_run e p g xs fun a ha => h a (List.mem_cons_of_mem _ ha)
    simp only [List.map_cons, compLoop, h1, h2, R.bind_okS]
    cases hp : p x with
    | true => simp [h3 hp, ih, List.filter_cons, hp]
    | false => simp [ih, List.filter_cons, hp]
theorem comp_all {α : Type} {tg : T} {c : Ctx} {elt : Env → Sto → R Val} {env : Env} {S : Sto} (e : α → Val) (g : α → Val) (xs : List α) (h : ∀ a ∈ xs, ∃ env', bindT tg (e a) env = some env' ∧ elt env' S = .ok (g a) S) :
    compLoop tg (evalAnd c []) elt env (xs.map e) S = .ok (xs.map fun a => (g a).settle) S := by
  have := comp_run (tg := tg) (test := evalAnd c []) (elt := elt) (env := env) (S := S) e (fun _ => true) g xs fun a ha => by
    obtain ⟨env', h1, h2⟩ := h a ha
    exact ⟨env', h1, by simp [evalAnd], fun _ => h2⟩
  rw [this, List.filter_eq_self.mpr (fun _ _ => rfl)]
theorem for_run {α : Type} {tg : T} {body : Env → Sto → R (Fl × Env)} (e : α → Val) (I : Nat → Env → Sto → Prop) :
    ∀ (xs : List α) (n : Nat) (env : Env) (S : Sto), I n env S → (∀ i a env S, xs[i]? = some a → I (n + i) env S → ∃ env' env2 S2, bindT tg (e a) env = some env' ∧ body env' S = .ok (.nx, env2) S2 ∧ I (n + i + 1) env2 S2) →
    ∃ env2 S2, forLoop tg body (xs.map e) env S = .ok (.nx, env2) S2 ∧ I (n + xs.length) env2 S2
  | [], n, env, S, h0, _ => ⟨env, S, rfl, h0⟩
  | x :: xs, n, env, S, h0, h => by
    obtain ⟨env', env2, S2, h1, h2, h3⟩ := h 0 x env S rfl h0
    obtain ⟨env3, S3, h4, h5⟩ := for_run e I xs (n + 1) env2 S2 h3 fun i a env S q r => by
      have := h (i + 1) a env S (by simpa using q) (by rw [show n + (i + 1) = n + 1 + i by omega]; exact r)
      rw [show n + (i + 1) = n + 1 + i by omega] at this
      exact this
    refine ⟨env3, S3, ?_, by rw [List.length_cons, show n + (xs.length + 1) = n + 1 + xs.length by omega]; exact h5⟩
    simp only [List.map_cons, forLoop, h1, h2, R.bind_okS, h4]
theorem ss_step {c : Ctx} {s : Stm} {ss : List Stm} {env env' : Env} {S S' : Sto} {r : R (Fl × Env)} (h : execS c s env S = .ok (.nx, env') S') (k : execSs c ss env' S' = r) : execSs c (s :: ss) env S = r := by
  simp only [execSs, h, R.bind_okS, k]
theorem rangeV_map (a : Int) : ∀ n : Nat, rangeV a n = (List.range n).map fun i => .int (a + (i : Nat))
  | 0 => rfl
  | n + 1 => by
    rw [rangeV, rangeV_map (a + 1) n, List.range_succ_eq_map, List.map_cons, List.map_map]
    simp only [Int.natCast_zero, Int.add_zero, List.cons.injEq, true_and]
    apply List.map_congr_left
    intro i _
    simp only [Function.comp_apply]
    congr 1
    push_cast
    omega
theorem bools_map {α : Type} (p : α → Bool) : ∀ xs : List α, bools? (xs.map fun a => .bl (p a)) = some (xs.map p)
  | [] => rfl
  | x :: xs => by simp [bools?, bools_map p xs]
theorem ints_map {α : Type} (p : α → Int) : ∀ xs : List α, ints? (xs.map fun a => .int (p a)) = some (xs.map p)
  | [] => rfl
  | x :: xs => by simp [ints?, ints_map p xs]
def cxt (P : Prog) (k b : Nat) : Ctx := ctxOf P (callFn P k) b
@[simp] theorem cxt_call (P : Prog) (k b : Nat) : (cxt P k b).call = callFn P k := by exact id rfl
@[simp] theorem cxt_adr (P : Prog) (k b i : Nat) : (cxt P k b).adr i = P.adr[i]? := by exact id rfl
@[simp] theorem cxt_gok (P : Prog) (k b g : Nat) : (cxt P k b).gok g = (P.grd.lookup g).map fun t => t.1 := by exact id rfl
@[simp] theorem cxt_gx (P : Prog) (k b g j : Nat) : (cxt P k b).gx g j = (P.grd.lookup g).bind fun t => (t.2[j]?).bind id := by exact id rfl
@[simp] theorem cxt_base (P : Prog) (k b : Nat) : (cxt P k b).base = b := by exact id rfl
@[simp] theorem cxt_con (P : Prog) (k b i : Nat) : (cxt P k b).con i = P.con[i]? := by exact id rfl
theorem run_fn {P : Prog} {f k : Nat} {args : List Val} {S : Sto} {d : Def} (hd : P.fns[f]? = some d) (ha : args.length = d.arity) :
    callFn P (k + 1) f args S = finish S.length (execSs (cxt P k S.length) d.body (args.map some ++ List.replicate (d.size - d.arity) none) S) := by
  simp only [callFn, hd, ha, if_true]
  rfl
/-! ### the evaluator's steps, all but the comprehensions' -/
section
variable (c : Ctx) (env : Env) (S : Sto)
@[simp] theorem ev_var (i : Nat) : evalE c (.var i) env S = (match env[i]? with
    | some (some v) => .ok v S
    | _ => .bad) := by rw [evalE] <;> rfl
@[simp] theorem ev_lit (v : Val) : evalE c (.lit v) env S = .ok v S := by rw [evalE]
@[simp] theorem ev_con (i : Nat) : evalE c (.con i) env S = R.of (c.con i) S := by rw [evalE]
@[simp] theorem ev_bin (op : BOp) (a b : E) : evalE c (.bin op a b) env S = (evalE c a env S).bind fun x S1 => (evalE c b env S1).bind fun y S2 => R.of (QE.bin S2 op x y) S2 := by rw [evalE]
@[simp] theorem ev_neg (a : E) : evalE c (.neg a) env S = (evalE c a env S).bind fun x S1 => (asInt x S1).bind fun i S2 => .ok (.int (-i)) S2 := by rw [evalE]
@[simp] theorem ev_cmp (op : COp) (a b : E) : evalE c (.cmp op a b) env S = (evalE c a env S).bind fun x S1 => (evalE c b env S1).bind fun y S2 => (R.of (QE.cmp S2 op x y) S2).bind fun r S3 => .ok (.bl r) S3 := by rw [evalE]
@[simp] theorem ev_chain (o1 o2 : COp) (a b d : E) : evalE c (.chain o1 o2 a b d) env S = (evalE c a env S).bind fun x S1 => (evalE c b env S1).bind fun y S2 => (R.of (QE.cmp S2 o1 x y) S2).bind fun r S3 =>
      if r then (evalE c d env S3).bind fun z S4 => (R.of (QE.cmp S4 o2 y z) S4).bind fun r S5 => .ok (.bl r) S5 else .ok (.bl false) S3 := by rw [evalE]
@[simp] theorem ev_and (es : List E) : evalE c (.and es) env S = (evalAnd c es env S).bind fun b S1 => .ok (.bl b) S1 := by rw [evalE]
@[simp] theorem ev_or (es : List E) : evalE c (.or es) env S = (evalOr c es env S).bind fun b S1 => .ok (.bl b) S1 := by rw [evalE]
@[simp] theorem ev_not (a : E) : evalE c (.not a) env S = (evalE c a env S).bind fun x S1 => (asBl x S1).bind fun b S2 => .ok (.bl (!b)) S2 := by rw [evalE]
@[simp] theorem ev_ite (t a b : E) : evalE c (.ite t a b) env S = (evalE c t env S).bind fun x S1 => (asBl x S1).bind fun r S2 => if r then evalE c a env S2 else evalE c b env S2 := by rw [evalE]
@[simp] theorem ev_tup (es : List E) : evalE c (.tup es) env S = (evalEs c es env S).bind fun xs S1 => if xs.length ≤ lim then .ok (.tup xs) S1 else .bad := by rw [evalE]
@[simp] theorem ev_list (es : List E) : evalE c (.list es) env S = (evalEs c es env S).bind fun xs S1 => if xs.length ≤ lim then .ok (.lst true xs) S1 else .bad := by rw [evalE]
@[simp] theorem ev_dnew (t : Bool) : evalE c (.dnew t) env S = .ok (.dic true t []) S := by rw [evalE]
@[simp] theorem ev_idx (a i : E) : evalE c (.idx a i) env S = (evalE c a env S).bind fun x S1 => (evalE c i env S1).bind fun y S2 => R.of (item S2 x y) S2 := by rw [evalE]
@[simp] theorem ev_slice (a : E) (lo hi : Option E) : evalE c (.slice a lo hi) env S = (evalE c a env S).bind fun x S1 => (evalO c lo env S1).bind fun l S2 => (evalO c hi env S2).bind fun h S3 => R.of (QE.slice S3 x l h) S3 := by rw [evalE]
@[simp] theorem ev_call (f : Nat) (es : List E) : evalE c (.call f es) env S = (evalEs c es env S).bind fun xs S1 => c.call f xs S1 := by rw [evalE]
@[simp] theorem ev_bi (b : Bi) (es : List E) : evalE c (.bi b es) env S = (evalEs c es env S).bind fun xs S1 => R.of (callBi S1 b xs) S1 := by rw [evalE]
@[simp] theorem ev_isi (t : Ty) (a : E) : evalE c (.isi t a) env S = (evalE c a env S).bind fun x S1 => (R.of (isTy S1 t x) S1).bind fun r S2 => .ok (.bl r) S2 := by rw [evalE]
@[simp] theorem ev_meth (m : Me) (o a : E) : evalE c (.meth m o a) env S = (evalE c o env S).bind fun x S1 => (R.of (asList S1 x) S1).bind fun _ S1 => (evalE c a env S1).bind fun v S2 => R.of (callMe S2 m x [v.settle]) S2 := by rw [evalE]
@[simp] theorem ev_append (o a : E) : evalE c (.append o a) env S = (evalE c o env S).bind fun x S1 => (R.of (asList S1 x) S1).bind fun _ S1 => (evalE c a env S1).bind fun v S2 => QE.append c.base S2 x v.settle := by rw [evalE]
@[simp] theorem ev_cell (e : E) : evalE c (.cell e) env S = (evalE c e env S).bind fun v S1 => newCell S1 v := by rw [evalE]
@[simp] theorem es_nil : evalEs c [] env S = .ok [] S := by rw [evalEs]
@[simp] theorem es_cons (e : E) (es : List E) : evalEs c (e :: es) env S = (evalE c e env S).bind fun x S1 => (evalEs c es env S1).bind fun xs S2 => .ok (x.settle :: xs) S2 := by rw [evalEs]
@[simp] theorem eo_none : evalO c none env S = .ok none S := by rw [evalO]
@[simp] theorem eo_some (e : E) : evalO c (some e) env S = (evalE c e env S).bind fun x S1 => (asInt x S1).bind fun i S2 => .ok (some i) S2 := by rw [evalO]
@[simp] theorem ea_nil : evalAnd c [] env S = .ok true S := by rw [evalAnd]
@[simp] theorem ea_cons (e : E) (es : List E) : evalAnd c (e :: es) env S = (evalE c e env S).bind fun x S1 => (asBl x S1).bind fun b S2 => if b then evalAnd c es env S2 else .ok false S2 := by rw [evalAnd]
@[simp] theorem eor_nil : evalOr c [] env S = .ok false S := by rw [evalOr]
@[simp] theorem eor_cons (e : E) (es : List E) : evalOr c (e :: es) env S = (evalE c e env S).bind fun x S1 => (asBl x S1).bind fun b S2 => if b then .ok true S2 else evalOr c es env S2 := by rw [evalOr]
@[simp] theorem sr_it (e : E) : evalSrc c (.it e) env S = (evalE c e env S).bind fun v S1 => R.of (walkOf v) S1 := by rw [evalSrc]
@[simp] theorem sr_1 (a : E) : evalSrc c (.rng1 a) env S = (evalE c a env S).bind fun v S1 => (asInt v S1).bind fun i S2 => rangeOf S2 0 i := by rw [evalSrc]
@[simp] theorem sr_2 (a b : E) : evalSrc c (.rng2 a b) env S = (evalE c a env S).bind fun v S1 => (asInt v S1).bind fun i S2 => (evalE c b env S2).bind fun w S3 => (asInt w S3).bind fun j S4 => rangeOf S4 i j := by rw [evalSrc]
@[simp] theorem sr_enum (e : E) : evalSrc c (.enum e) env S = (evalE c e env S).bind fun v S1 => (R.of (seqOf v) S1).bind fun xs S2 => .ok (enumFrom 0 xs) S2 := by rw [evalSrc]
@[simp] theorem sr_zip (a b : E) : evalSrc c (.zip a b) env S = (evalE c a env S).bind fun v S1 => (evalE c b env S1).bind fun w S2 => (R.of (twoOf v w) S2).bind fun p S3 => .ok (zipV p.1 p.2) S3 := by rw [evalSrc]
@[simp] theorem xs_nil : execSs c [] env S = .ok (.nx, env) S := by rw [execSs]
@[simp] theorem xs_cons (s : Stm) (ss : List Stm) : execSs c (s :: ss) env S = (execS c s env S).bind fun f S1 => match f with
    | (.nx, e) => execSs c ss e S1
    | (f, e) => .ok (f, e) S1 := by rw [execSs] <;> rfl
@[simp] theorem x_asg (tg : T) (e : E) : execS c (.asg tg e) env S = (evalE c e env S).calm.bind fun v S1 => (R.of (bindT tg v env) S1).bind fun env' S2 => .ok (.nx, env') S2 := by rw [execS]
@[simp] theorem x_setIx (o i e : E) : execS c (.setIx o i e) env S = (evalE c e env S).calm.bind fun v S1 => (evalE c o env S1).calm.bind fun x S2 => (evalE c i env S2).calm.bind fun y S3 => (QE.setIx c.base S3 x y v).calm.bind fun _ S4 => .ok (.nx, env) S4 := by rw [execS]
@[simp] theorem x_ext (i : Nat) (e : E) : execS c (.ext i e) env S = (match env[i]? with
    | some (some x) => (evalE c e env S).calm.bind fun y S1 => (QE.extend c.base S1 x y).calm.bind fun _ S2 => .ok (.nx, env) S2
    | _ => .bad) := by rw [execS] <;> rfl
@[simp] theorem x_expr (e : E) : execS c (.expr e) env S = (evalE c e env S).calm.bind fun _ S1 => .ok (.nx, env) S1 := by rw [execS]
@[simp] theorem x_ret (e : E) : execS c (.ret e) env S = (evalE c e env S).calm.bind fun v S1 => .ok (.rt v, env) S1 := by rw [execS]
@[simp] theorem x_if (t : E) (a b : List Stm) : execS c (.if_ t a b) env S = (evalE c t env S).calm.bind fun x S1 => (asBl x S1).bind fun r S2 => if r then execSs c a env S2 else execSs c b env S2 := by rw [execS]
@[simp] theorem ev_guard (g j p : Nat) (q : List Nat) (e : E) : evalE c (.guard g j p q e) env S = if tblAt S j p q then guardR c g (evalX c e env S) else .bad := by rw [evalE]
@[simp] theorem ev_fn (f : Nat) : evalE c (.fn f) env S = (R.of (c.adr f) S).bind fun a S1 => .ok (.fn f a) S1 := by rw [evalE]
@[simp] theorem ev_trng (a b : E) : evalE c (.trng a b) env S = (evalE c a env S).bind fun v S1 => (asInt v S1).bind fun i S2 => (evalE c b env S2).bind fun w S3 => (asInt w S3).bind fun j S4 => (rangeOf S4 i j).bind fun xs S5 => if xs.length ≤ lim then .ok (.tup xs) S5 else .bad := by rw [evalE]
@[simp] theorem eX_call (f : Nat) (es : List E) : evalX c (.call f es) env S = (evalEs c es env S).calm.bind fun xs S1 => c.call f xs S1 := by rw [evalX]
@[simp] theorem eX_callV (i : Nat) (es : List E) : evalX c (.callV i es) env S = (R.of (fnAt c env i) S).bind fun f S0 => (evalEs c es env S0).calm.bind fun xs S1 => c.call f xs S1 := by rw [evalX]
@[simp] theorem x_raise (k : Nat) : execS c (.raise_ k) env S = .exc k [] S := by rw [execS]
@[simp] theorem x_xcall (e : E) : execS c (.xcall e) env S = (evalX c e env S).bind fun _ S1 => .ok (.nx, env) S1 := by rw [execS]
@[simp] theorem bl_ok (b : Bool) : asBl (.bl b) S = .ok b S := by exact id rfl
@[simp] theorem int_ok (b : Int) : asInt (.int b) S = .ok b S := by exact id rfl
@[simp] theorem set_int (i : Int) : (Val.int i).settle = .int i := by exact id rfl
@[simp] theorem set_bl (i : Bool) : (Val.bl i).settle = .bl i := by exact id rfl
@[simp] theorem set_str (i : List Nat) : (Val.str i).settle = .str i := by exact id rfl
@[simp] theorem set_non : Val.non.settle = .non := by exact id rfl
@[simp] theorem set_tup (i : List Val) : (Val.tup i).settle = .tup i := by exact id rfl
@[simp] theorem set_ref (i : Nat) : (Val.ref i).settle = .ref i := by exact id rfl
@[simp] theorem set_lst (f : Bool) (i : List Val) : (Val.lst f i).settle = .lst false i := by exact id rfl
@[simp] theorem set_dic (f t : Bool) (i : List (Val × Val)) : (Val.dic f t i).settle = .dic false t i := by exact id rfl
@[simp] theorem bind_name (i : Nat) (v : Val) : bindT (.name i) v env = some (env.set i (some v.settle)) := by rw [bindT]
@[simp] theorem bind_tup (ts : List T) (xs : List Val) : bindT (.tup ts) (.tup xs) env = bindTs ts xs env := by rw [bindT]
@[simp] theorem binds_nil : bindTs [] [] env = some env := by rw [bindTs]
@[simp] theorem binds_cons (t : T) (ts : List T) (x : Val) (xs : List Val) : bindTs (t :: ts) (x :: xs) env = (match bindT t x env with
    | some env' => bindTs ts xs env'
    | none => none) := by rw [bindTs] <;> rfl
@[simp] theorem fin_rt (v : Val) (e : Env) : finish S.length (.ok (.rt v, e) S) = .ok v S := by simp [finish]
@[simp] theorem fin_exc (k : Nat) (ps : List Val) : finish S.length (.exc k ps S) = .exc k ps S := by simp [finish]
@[simp] theorem fin_nx (e : Env) : finish S.length (.ok (.nx, e) S) = .ok .non S := by simp [finish]
variable {c env S}
theorem ev_comp {own : List Nat} {tg : T} {src : Src} {ifs : List E} {elt : E} {xs ys : List Val} {S1 S2 : Sto} (h1 : evalSrc c src env S = .ok xs S1) (h2 : compLoop tg (evalAnd c ifs) (evalE c elt) (wipe env own) xs S1 = .ok ys S2) (hl : ys.length ≤ lim) :
    evalE c (.comp own tg src ifs elt) env S = .ok (.lst true ys) S2 := by
  rw [evalE]
  simp [h1, h2, hl]
theorem ev_dcomp {own : List Nat} {tg : T} {src : Src} {t : Bool} {k v : E} {xs : List Val} {ys : List (Val × Val)} {S1 S2 : Sto} (h1 : evalSrc c src env S = .ok xs S1) (h2 : dcompLoop tg t (evalE c k) (evalE c v) (wipe env own) xs [] S1 = .ok ys S2) (hl : xs.length ≤ lim) :
    evalE c (.dcomp own tg src t k v) env S = .ok (.dic true t ys) S2 := by
  rw [evalE]
  simp [h1, h2, hl]
theorem x_for {tg : T} {src : Src} {body : List Stm} {xs : List Val} {S1 : Sto} {r : R (Fl × Env)} (h1 : evalSrc c src env S = .ok xs S1) (h2 : forLoop tg (execSs c body) xs env S1 = r) : execS c (.for_ tg src body) env S = r := by
  rw [execS]
  simp [h1, h2]
end
end QE
namespace QE
theorem ev_compS (c : Ctx) (env : Env) (S : Sto) (own : List Nat) (tg : T) (src : Src) (ifs : List E) (elt : E) : evalE c (.comp own tg src ifs elt) env S = (evalSrc c src env S).bind fun xs S1 => (compLoop tg (evalAnd c ifs) (evalE c elt) (wipe env own) xs S1).calm.bind fun ys S2 => if ys.length ≤ lim then .ok (.lst true ys) S2 else .bad := by rw [evalE]
theorem R.calm_if {α : Type} {p : Prop} [Decidable p] (a b : R α) : (if p then a else b).calm = if p then a.calm else b.calm := by split <;> rfl
@[simp] theorem R.calm_excS {α : Type} (k : Nat) (ps : List Val) (S : Sto) : (R.exc k ps S : R α).calm = .bad := by exact id rfl
@[simp] theorem set_fn (f a : Nat) : (Val.fn f a).settle = .fn f a := by exact id rfl
end QE

set_option linter.all false
set_option maxRecDepth 10000
namespace K10
open QE
@[simp] theorem c0 : prog.con[0]? = some (.int 8) := rfl
@[simp] theorem c1 : prog.con[1]? = some (.int 40) := rfl
@[simp] theorem c2 : prog.con[2]? = some (.int 40) := rfl
theorem w_int (k : Nat) (i : Int) (S : Sto) : callFn prog (k + 1) 0 [.int i] S = .ok (.bl true) S := by
  rw [run_fn (d := d_is_whole) rfl rfl]
  simp [d_is_whole, isTy, tyName]
theorem w_bl (k : Nat) (b : Bool) (S : Sto) : callFn prog (k + 1) 0 [.bl b] S = .ok (.bl false) S := by
  rw [run_fn (d := d_is_whole) rfl rfl]
  simp [d_is_whole, isTy, tyName]
theorem fw_int (k : Nat) (i a b : Int) (S : Sto) : callFn prog (k + 2) 1 [.int i, .int a, .int b] S = .ok (.bl (decide (a ≤ i) && decide (i ≤ b))) S := by
  rw [run_fn (d := d_fits_whole) rfl rfl]
  simp [d_fits_whole, QE.cmp, leVal, w_int]
  by_cases h : a ≤ i <;> simp [h]
theorem fw_bl (k : Nat) (i : Bool) (a b : Val) (S : Sto) : callFn prog (k + 2) 1 [.bl i, a, b] S = .ok (.bl false) S := by
  rw [run_fn (d := d_fits_whole) rfl rfl]
  simp [d_fits_whole, w_bl]
theorem tu_tup (k : Nat) (xs : List Val) (a b : Int) (S : Sto) : callFn prog (k + 1) 2 [.tup xs, .int a, .int b] S = .ok (.bl (decide (a ≤ xs.length) && decide ((xs.length : Int) ≤ b))) S := by
  rw [run_fn (d := d_is_tuple_of) rfl rfl]
  simp [d_is_tuple_of, QE.cmp, leVal, isTy, tyName, callBi, lenOf, asSeq]
  by_cases h : a ≤ (xs.length : Int) <;> simp [h]
/-- no tuple -/
def noT : Val → Bool
  | .non => true
  | .bl _ => true
  | .int _ => true
  | .str _ => true
  | .lst _ _ => true
  | _ => false
theorem tu_not (k : Nat) (v a b : Val) (S : Sto) (h : noT v = true) : callFn prog (k + 1) 2 [v, a, b] S = .ok (.bl false) S := by
  rw [run_fn (d := d_is_tuple_of) rfl rfl]
  cases v <;> simp only [noT] at h <;> first | (cases h; done) | simp [d_is_tuple_of, isTy, tyName, isNon]
/-! ### rising, gatherings, books -/
def adj {α : Type} (lt : α → α → Bool) (xs : List α) : Bool := (xs.zip (xs.drop 1)).all fun p => lt p.1 p.2
theorem zipV_map {α : Type} (e : α → Val) : ∀ xs ys : List α, zipV (xs.map e) (ys.map e) = (xs.zip ys).map fun p => .tup [e p.1, e p.2]
  | [], _ => by simp [zipV]
  | _ :: _, [] => by simp [zipV]
  | x :: xs, y :: ys => by simp [zipV, zipV_map e xs ys]
theorem cut_one {α : Type} (xs : List α) : cut xs (some 1) none = xs.drop 1 := by
  cases xs with
  | nil => rfl
  | cons x xs =>
    have h1 : clip (x :: xs).length 0 (some 1) = 1 := by simp [clip]
    simp only [cut, h1, clip]
    simp
theorem rising {α : Type} (k : Nat) (S : Sto) (xs : List α) (e : α → Val) (lt : α → α → Bool) (st : ∀ a, (e a).settle = e a) (h : ∀ a b, ltVal (e a) (e b) = some (lt a b)) (hl : xs.length ≤ lim) :
    callFn prog (k + 1) 3 [.tup (xs.map e)] S = .ok (.bl (adj lt xs)) S := by
  rw [run_fn (d := d_is_rising) rfl rfl]
  have hc := ev_comp (c := cxt prog k S.length) (own := [1, 2]) (tg := .tup [.name 1, .name 2]) (src := .zip (.var 0) (.slice (.var 0) (some (.lit (.int 1))) none)) (ifs := []) (elt := .cmp .lt (.var 1) (.var 2)) (env := [some (.tup (xs.map e)), none, none]) (S := S) (S1 := S) (S2 := S)
    (xs := (xs.zip (xs.drop 1)).map fun p => .tup [e p.1, e p.2]) (by simp only [sr_zip, ev_var, ev_slice, eo_some, eo_none, ev_lit, int_ok, R.bind_okS, List.getElem?_cons_zero, QE.slice, cut_one, R.of_some, twoOf, ← List.map_drop, zipV_map])
    (comp_all (fun p : α × α => .tup [e p.1, e p.2]) (fun p => .bl (lt p.1 p.2)) (xs.zip (xs.drop 1)) fun p _ => ⟨[some (.tup (xs.map e)), some (e p.1), some (e p.2)], by simp [wipe, st], by simp [QE.cmp, h]⟩)
    (by simp; omega)
  simp [d_is_rising, hc, callBi, boolsV, asList, bools_map, adj, -List.drop_one]
def iv (i : Int) : Val := .int i
@[simp] theorem iv_st (i : Int) : (iv i).settle = iv i := rfl
def ltI (a b : Int) : Bool := decide (a < b)
theorem risI (k : Nat) (S : Sto) (is : List Int) (hl : is.length ≤ lim) : callFn prog (k + 1) 3 [.tup (is.map iv)] S = .ok (.bl (adj ltI is)) S :=
  rising k S is iv ltI (fun _ => rfl) (fun _ _ => rfl) hl
theorem all_map {α : Type} (p : α → Bool) (xs : List α) : (xs.map p).all id = xs.all p := by simp [List.all_map]
/-- a gathering of whole numbers -/
def gOk (s : Int) (is : List Int) : Bool := (decide (1 ≤ s) && decide (s ≤ 8)) && ((decide (1 ≤ (is.length : Int)) && decide ((is.length : Int) ≤ 2 * s)) && (is.all (fun i => decide (1 ≤ i) && decide (i ≤ 2 * s)) && adj ltI is))
theorem sm2 : small 2 = true := by decide
theorem fgI (k : Nat) (S : Sto) (s : Int) (is : List Int) (hl : is.length ≤ lim) : callFn prog (k + 3) 4 [.tup [.int s, .tup (is.map iv)]] S = .ok (.bl (gOk s is)) S := by
  rw [run_fn (d := d_fits_gathering) rfl rfl]
  have hc := ev_comp (c := cxt prog (k + 2) S.length) (own := [1]) (tg := .name 1) (src := .it (.idx (.var 0) (.lit (.int 1)))) (ifs := []) (elt := .call 1 [.var 1, .lit (.int 1), .bin .mul (.lit (.int 2)) (.idx (.var 0) (.lit (.int 0)))]) (env := [some (.tup [.int s, .tup (is.map iv)]), none]) (S := S) (S1 := S) (S2 := S)
    (xs := is.map iv) (by simp [item, itemOf, atI, ixN, walkOf])
    (comp_all iv (fun i => .bl (decide (1 ≤ i) && decide (i ≤ 2 * s))) is fun i _ => ⟨[some (.tup [.int s, .tup (is.map iv)]), some (iv i)], by simp [wipe], by simp [item, itemOf, atI, ixN, QE.bin, mulV, sm2, iv, fw_int]⟩)
    (by simpa using hl)
  have h1 := risI (k + 1) S is hl
  have f0 := tu_tup (k + 1) [.int s, .tup (is.map iv)] 2 2 S
  have f1 := fw_int k s 1 8 S
  have f2 := tu_tup (k + 1) (is.map iv) 1 (2 * s) S
  rw [List.length_map] at f2
  unfold gOk
  generalize (decide (1 ≤ s) && decide (s ≤ 8)) = b1 at f1 ⊢
  generalize (decide (1 ≤ (is.length : Int)) && decide ((is.length : Int) ≤ 2 * s)) = b2 at f2 ⊢
  cases b1 <;> cases b2 <;> simp [d_fits_gathering, hc, f0, f1, f2, item, itemOf, atI, ixN, QE.bin, mulV, sm2, h1, callBi, boolsV, asList, bools_map, all_map]
  rw [Bool.eq_iff_iff]
  simp [List.all_eq_true]
theorem fg_not (k : Nat) (S : Sto) (v : Val) (h : noT v = true) : callFn prog (k + 3) 4 [v] S = .ok (.bl false) S := by
  rw [run_fn (d := d_fits_gathering) rfl rfl]
  have h1 := tu_not (k + 1) v.settle (.int 2) (.int 2) S (by cases v <;> simp [noT] at h <;> rfl)
  simp [d_fits_gathering, h1]
theorem fg_len (k : Nat) (S : Sto) (xs : List Val) (h : xs.length ≠ 2) : callFn prog (k + 3) 4 [.tup xs] S = .ok (.bl false) S := by
  rw [run_fn (d := d_fits_gathering) rfl rfl]
  have h1 := tu_tup (k + 1) xs 2 2 S
  have h2 : (decide ((2 : Int) ≤ xs.length) && decide ((xs.length : Int) ≤ 2)) = false := by
    simp only [Bool.and_eq_false_iff, decide_eq_false_iff_not]
    omega
  rw [h2] at h1
  simp [d_fits_gathering, h1]
theorem fg_bl (k : Nat) (S : Sto) (b : Bool) (v : Val) : callFn prog (k + 3) 4 [.tup [.bl b, v]] S = .ok (.bl false) S := by
  rw [run_fn (d := d_fits_gathering) rfl rfl]
  have f0 := tu_tup (k + 1) [.bl b, v] 2 2 S
  simp [d_fits_gathering, f0, fw_bl, item, itemOf, atI, ixN]
theorem fg_snd (k : Nat) (S : Sto) (s : Int) (v : Val) (h : noT v = true) (hv : v.settle = v) : callFn prog (k + 3) 4 [.tup [.int s, v]] S = .ok (.bl false) S := by
  rw [run_fn (d := d_fits_gathering) rfl rfl]
  have f0 := tu_tup (k + 1) [.int s, v] 2 2 S
  have f1 := fw_int k s 1 8 S
  have f2 := tu_not (k + 1) v (.int 1) (.int (2 * s)) S h
  generalize (decide (1 ≤ s) && decide (s ≤ 8)) = b1 at f1
  cases b1 <;> simp [d_fits_gathering, f0, f1, f2, item, itemOf, atI, ixN, QE.bin, mulV, sm2, hv]
theorem fg_one (k : Nat) (S : Sto) : callFn prog (k + 3) 4 [.tup [.int 1, .tup [.bl true]]] S = .ok (.bl false) S := by
  rw [run_fn (d := d_fits_gathering) rfl rfl]
  have f0 := tu_tup (k + 1) [.int 1, .tup [.bl true]] 2 2 S
  have f2 := tu_tup (k + 1) [.bl true] 1 2 S
  have hc := ev_comp (c := cxt prog (k + 2) S.length) (own := [1]) (tg := .name 1) (src := .it (.idx (.var 0) (.lit (.int 1)))) (ifs := []) (elt := .call 1 [.var 1, .lit (.int 1), .bin .mul (.lit (.int 2)) (.idx (.var 0) (.lit (.int 0)))]) (env := [some (.tup [.int 1, .tup [.bl true]]), none]) (S := S) (S1 := S) (S2 := S)
    (xs := [true].map .bl) (by simp [item, itemOf, atI, ixN, walkOf])
    (comp_all .bl (fun i => .bl false) [true] fun i _ => ⟨[some (.tup [.int 1, .tup [.bl true]]), some (.bl i)], by simp [wipe], by simp [item, itemOf, atI, ixN, QE.bin, mulV, sm2, fw_bl]⟩)
    (by simp [lim])
  simp [d_fits_gathering, hc, f0, f2, fw_int, item, itemOf, atI, ixN, QE.bin, mulV, sm2, callBi, boolsV, asList, bools?]
theorem fb {α : Type} (k : Nat) (S : Sto) (gs : List α) (e : α → Val) (r : α → Bool) (st : ∀ a, (e a).settle = e a) (h : ∀ a ∈ gs, callFn prog (k + 3) 4 [e a] S = .ok (.bl (r a)) S) (hl : gs.length ≤ lim) :
    callFn prog (k + 4) 5 [.tup (gs.map e)] S = .ok (.bl (decide (1 ≤ (gs.length : Int)) && decide ((gs.length : Int) ≤ 40) && gs.all r)) S := by
  rw [run_fn (d := d_fits_book) rfl rfl]
  have hc := ev_comp (c := cxt prog (k + 3) S.length) (own := [1]) (tg := .name 1) (src := .it (.var 0)) (ifs := []) (elt := .call 4 [.var 1]) (env := [some (.tup (gs.map e)), none]) (S := S) (S1 := S) (S2 := S)
    (xs := gs.map e) (by simp [walkOf])
    (comp_all e (fun a => .bl (r a)) gs fun a ha => ⟨[some (.tup (gs.map e)), some (e a)], by simp [wipe, st], by simp [st, h a ha]⟩)
    (by simpa using hl)
  have f0 := tu_tup (k + 2) (gs.map e) 1 40 S
  rw [List.length_map] at f0
  generalize (decide (1 ≤ (gs.length : Int)) && decide ((gs.length : Int) ≤ 40)) = b1 at f0 ⊢
  cases b1 <;> simp [d_fits_book, hc, f0, callBi, boolsV, asList, bools_map, all_map]
theorem fb_not (k : Nat) (S : Sto) (v : Val) (h : noT v = true) : callFn prog (k + 4) 5 [v] S = .ok (.bl false) S := by
  rw [run_fn (d := d_fits_book) rfl rfl]
  have h1 := tu_not (k + 2) v (.int 1) (.int 40) S h
  have h2 : v.settle = v.settle := rfl
  have h3 := tu_not (k + 2) v.settle (.int 1) (.int 40) S (by cases v <;> simp [noT] at h <;> rfl)
  simp [d_fits_book, h3]
theorem nb (k : Nat) (S : Sto) (v : Val) (hv : v.settle = v) (h : callFn prog (k + 4) 5 [v] S = .ok (.bl true) S) : callFn prog (k + 5) 6 [v] S = .ok .non S := by
  rw [run_fn (d := d_need_book) rfl rfl]
  simp [d_need_book, hv, h]
end K10

set_option linter.all false
set_option maxRecDepth 10000
namespace K10
open QE
/-! ### books -/
abbrev G := Nat × List Nat
def nv (n : Nat) : Val := .int n
@[simp] theorem nv_st (n : Nat) : (nv n).settle = nv n := rfl
def encG (g : G) : Val := .tup [nv g.1, .tup (g.2.map nv)]
def encB (b : List G) : Val := .tup (b.map encG)
def encP (p : Nat × Nat) : Val := .tup [nv p.1, nv p.2]
@[simp] theorem encG_st (g : G) : (encG g).settle = encG g := rfl
@[simp] theorem encB_st (b : List G) : (encB b).settle = encB b := rfl
@[simp] theorem encP_st (p : Nat × Nat) : (encP p).settle = encP p := rfl
structure VG (g : G) : Prop where
  lo : 1 ≤ g.1
  hi : g.1 ≤ 8
  ne : g.2 ≠ []
  sorted : g.2.Pairwise (· < ·)
  rng : ∀ p ∈ g.2, 1 ≤ p ∧ p ≤ 2 * g.1
structure VB (b : List G) : Prop where
  ne : 1 ≤ b.length
  few : b.length ≤ 5
  each : ∀ g ∈ b, VG g
theorem sorted_len {n : Nat} : ∀ {m : Nat} {l : List Nat}, l.Pairwise (· < ·) → (∀ p ∈ l, m < p ∧ p ≤ n) → l.length ≤ n - m
  | _, [], _, _ => by simp
  | m, x :: xs, h, k => by
    rw [List.pairwise_cons] at h
    have hx := k x (by simp)
    have := sorted_len (m := x) h.2 fun p hp => ⟨h.1 p hp, (k p (List.mem_cons_of_mem _ hp)).2⟩
    simp only [List.length_cons]
    omega
theorem VG.len {g : G} (h : VG g) : g.2.length ≤ 16 := by
  have := sorted_len (m := 0) h.sorted fun p hp => ⟨by have := (h.rng p hp).1; omega, (h.rng p hp).2⟩
  have := h.hi
  omega
theorem VG.len1 {g : G} (h : VG g) : g.2.length ≤ 2 * g.1 := by
  have := sorted_len (m := 0) h.sorted fun p hp => ⟨by have := (h.rng p hp).1; omega, (h.rng p hp).2⟩
  omega
theorem adj_sorted {α : Type} {lt : α → α → Bool} : ∀ {l : List α}, l.Pairwise (fun a b => lt a b = true) → adj lt l = true
  | [], _ => rfl
  | [_], _ => rfl
  | x :: y :: l, h => by
    rw [List.pairwise_cons] at h
    have ih := adj_sorted h.2
    unfold adj at ih ⊢
    simp only [List.drop_succ_cons, List.drop_zero, List.zip_cons_cons, List.all_cons, Bool.and_eq_true] at ih ⊢
    exact ⟨h.1 y (by simp), ih⟩
theorem ints_nv (l : List Nat) : l.map nv = (l.map fun n : Nat => (n : Int)).map iv := by
  rw [List.map_map]; rfl
theorem gOk_of {g : G} (h : VG g) : gOk g.1 (g.2.map fun n : Nat => (n : Int)) = true := by
  have h1 := h.lo; have h2 := h.hi; have h3 := h.len1
  have h4 : 1 ≤ g.2.length := by
    cases hg : g.2 with
    | nil => exact absurd hg h.ne
    | cons _ _ => simp
  unfold gOk
  simp only [Bool.and_eq_true, decide_eq_true_eq, List.length_map, List.all_eq_true, List.mem_map]
  refine ⟨⟨by omega, by omega⟩, ⟨by omega, by omega⟩, ?_, ?_⟩
  · rintro i ⟨n, hn, rfl⟩
    have := h.rng n hn
    omega
  · refine adj_sorted ?_
    rw [List.pairwise_map]
    exact h.sorted.imp fun hab => by simp only [ltI, decide_eq_true_eq]; omega
theorem fgV (k : Nat) (S : Sto) {g : G} (h : VG g) : callFn prog (k + 3) 4 [encG g] S = .ok (.bl true) S := by
  have := fgI k S g.1 (g.2.map fun n : Nat => (n : Int)) (by rw [List.length_map]; have := h.len; simp only [lim]; omega)
  rw [gOk_of h, ← ints_nv] at this
  exact this
theorem fbV (k : Nat) (S : Sto) {b : List G} (h : VB b) : callFn prog (k + 4) 5 [encB b] S = .ok (.bl true) S := by
  have := fb k S b encG (fun _ => true) (fun _ => rfl) (fun g hg => fgV k S (h.each g hg)) (by have := h.few; simp only [lim]; omega)
  rw [show (decide (1 ≤ (b.length : Int)) && decide ((b.length : Int) ≤ 40) && b.all fun _ => true) = true by
    have := h.few; have := h.ne
    simp only [Bool.and_eq_true, decide_eq_true_eq, List.all_eq_true, implies_true, and_true]
    omega] at this
  exact this
theorem nbV (k : Nat) (S : Sto) {b : List G} (h : VB b) : callFn prog (k + 5) 6 [encB b] S = .ok .non S := nb k S _ rfl (fbV k S h)

/-! ### places -/
def plFrom : Nat → List G → List (Nat × Nat)
  | _, [] => []
  | i, g :: b => (g.2.map fun p => (i, p)) ++ plFrom (i + 1) b
def places (b : List G) : List (Nat × Nat) := plFrom 0 b
theorem plFrom_len {b : List G} (h : ∀ g ∈ b, VG g) : ∀ i, (plFrom i b).length ≤ 16 * b.length := by
  induction b with
  | nil => simp [plFrom]
  | cons g b ih =>
    intro i
    have h1 := (h g (by simp)).len
    have h2 := ih (fun g hg => h g (List.mem_cons_of_mem _ hg)) (i + 1)
    simp only [plFrom, List.length_append, List.length_map, List.length_cons]
    omega
theorem places_len {b : List G} (h : VB b) : (places b).length ≤ 80 := by
  have := plFrom_len h.each 0
  have := h.few
  unfold places
  omega
theorem set_last {α : Type} (S : List α) (x y : α) : (S ++ [x]).set S.length y = S ++ [y] := by simp
theorem lowL_P (n : Nat) : ∀ l : List (Nat × Nat), Val.lowL n (l.map encP) = true
  | [] => rfl
  | p :: l => by simp [Val.lowL, encP, Val.low, nv, lowL_P n l]
theorem fin_cell (S : Sto) (xs : List Val) (env : Env) (h : Val.lowL S.length xs = true) : finish S.length (.ok (.rt (.ref S.length), env) (S ++ [.lst xs])) = .ok (.lst true xs) S := by
  simp [finish, freeze, freeze1, h]
theorem pl_loop (k : Nat) (S : Sto) (B : Val) : ∀ (b : List G) (n : Nat) (acc : List Val) (x2 x3 x4 : Option Val), (∀ g ∈ b, VG g) → acc.length + 16 * b.length ≤ lim → ∃ y2 y3 y4,
    forLoop (.tup [.name 2, .tup [.name 3, .name 4]]) (execSs (cxt prog k S.length) [.ext 1 (.comp [5] (.name 5) (.it (.var 4)) [] (.tup [.var 2, .var 5]))]) (enumFrom n (b.map encG)) [some B, some (.ref S.length), x2, x3, x4, none] (S ++ [.lst acc])
      = .ok (.nx, [some B, some (.ref S.length), y2, y3, y4, none]) (S ++ [.lst (acc ++ (plFrom n b).map encP)])
  | [], n, acc, x2, x3, x4, _, _ => ⟨x2, x3, x4, by simp [enumFrom, forLoop, plFrom]⟩
  | g :: b, n, acc, x2, x3, x4, h, hl => by
    have hg := (h g (by simp)).len
    have hc := ev_comp (c := cxt prog k S.length) (own := [5]) (tg := .name 5) (src := .it (.var 4)) (ifs := []) (elt := .tup [.var 2, .var 5]) (env := [some B, some (.ref S.length), some (nv n), some (nv g.1), some (.tup (g.2.map nv)), none]) (S := S ++ [.lst acc]) (S1 := S ++ [.lst acc]) (S2 := S ++ [.lst acc])
      (xs := g.2.map nv) (by simp [walkOf])
      (comp_all nv (fun p => encP (n, p)) g.2 fun p _ => ⟨[some B, some (.ref S.length), some (nv n), some (nv g.1), some (.tup (g.2.map nv)), some (nv p)], by simp [wipe], by simp [encP, lim]⟩)
      (by simp [lim]; omega)
    simp only [List.length_cons] at hl
    obtain ⟨y2, y3, y4, ih⟩ := pl_loop k S B b (n + 1) (acc ++ (g.2.map fun p => encP (n, p))) (some (nv n)) (some (nv g.1)) (some (.tup (g.2.map nv))) (fun g hg => h g (List.mem_cons_of_mem _ hg)) (by simp; omega)
    refine ⟨y2, y3, y4, ?_⟩
    have hz : acc.length + g.2.length ≤ lim := by omega
    have hn : (.int (n : Int) : Val) = nv n := rfl
    simp only [List.map_cons, enumFrom, forLoop, encG, bind_tup, binds_cons, bind_name, binds_nil, hn]
    simp [hc, QE.extend, asList, hz, set_last]
    simp only [plFrom, List.map_append, List.map_map, Function.comp_def]
    simpa using ih
theorem pl (k : Nat) (S : Sto) {b : List G} (h : VB b) : callFn prog (k + 1) 8 [encB b] S = .ok (.lst true ((places b).map encP)) S := by
  rw [run_fn (d := d_places_in) rfl rfl]
  obtain ⟨y2, y3, y4, hf⟩ := pl_loop k S (encB b) b 0 [] none none none h.each (by have := h.few; simp [lim]; omega)
  have hx := x_for (c := cxt prog k S.length) (env := [some (encB b), some (.ref S.length), none, none, none, none]) (S := S ++ [.lst []]) (src := .enum (.var 0)) (xs := enumFrom 0 (b.map encG)) (S1 := S ++ [.lst []]) (by simp [encB, seqOf]) hf
  simp only [d_places_in, xs_cons, x_asg, ev_cell, ev_list, es_nil]
  simp [newCell, lim]
  rw [hx]
  simp
  exact fin_cell S _ _ (lowL_P _ _)
end K10

set_option linter.all false
set_option maxRecDepth 10000
namespace K10
open QE
def sh (b : List G) (i : Nat) : Nat := (b[i]?.getD (0, [])).1
def mt (b : List G) (q : Nat × Nat) : Nat × Nat := (q.1, 2 * sh b q.1 + 1 - q.2)
theorem mem_plFrom {q : Nat × Nat} : ∀ {b : List G} {n : Nat}, q ∈ plFrom n b ↔ ∃ j g, b[j]? = some g ∧ q.1 = n + j ∧ q.2 ∈ g.2
  | [], n => by simp [plFrom]
  | g :: b, n => by
    rw [plFrom, List.mem_append, mem_plFrom]
    constructor
    · rintro (h | ⟨j, g', h1, h2, h3⟩)
      · obtain ⟨p, hp, rfl⟩ := List.mem_map.mp h
        exact ⟨0, g, rfl, rfl, hp⟩
      · exact ⟨j + 1, g', by simpa using h1, by omega, h3⟩
    · rintro ⟨j, g', h1, h2, h3⟩
      cases j with
      | zero =>
        simp at h1
        subst h1
        exact .inl (List.mem_map.mpr ⟨q.2, h3, by ext <;> simp [h2]⟩)
      | succ j => exact .inr ⟨j, g', by simpa using h1, by omega, h3⟩
theorem mem_places {b : List G} {q : Nat × Nat} (h : q ∈ places b) : ∃ g, b[q.1]? = some g ∧ q.2 ∈ g.2 := by
  obtain ⟨j, g, h1, h2, h3⟩ := mem_plFrom.mp h
  rw [Nat.zero_add] at h2
  subst h2
  exact ⟨g, h1, h3⟩
theorem sh_of {b : List G} {i : Nat} {g : G} (h : b[i]? = some g) : sh b i = g.1 := by simp [sh, h]
theorem VB.get {b : List G} (h : VB b) {i : Nat} {g : G} (q : b[i]? = some g) : VG g := h.each g (List.mem_of_getElem? q)
/-- a place of the book, its sheets -/
theorem place_ok {b : List G} (h : VB b) {q : Nat × Nat} (hq : q ∈ places b) : ∃ g, b[q.1]? = some g ∧ VG g ∧ sh b q.1 = g.1 ∧ 1 ≤ q.2 ∧ q.2 ≤ 2 * g.1 := by
  obtain ⟨g, h1, h2⟩ := mem_places hq
  have := (h.get h1).rng _ h2
  exact ⟨g, h1, h.get h1, sh_of h1, this.1, this.2⟩
def plt (a b : Nat × Nat) : Prop := a.1 < b.1 ∨ (a.1 = b.1 ∧ a.2 < b.2)
theorem plFrom_sorted : ∀ {b : List G} {n : Nat}, (∀ g ∈ b, VG g) → (plFrom n b).Pairwise plt
  | [], _, _ => List.Pairwise.nil
  | g :: b, n, h => by
    rw [plFrom, List.pairwise_append]
    refine ⟨?_, plFrom_sorted fun g hg => h g (List.mem_cons_of_mem _ hg), fun x hx y hy => ?_⟩
    · rw [List.pairwise_map]
      exact (h g (by simp)).sorted.imp fun hab => .inr ⟨rfl, hab⟩
    · obtain ⟨p, _, rfl⟩ := List.mem_map.mp hx
      obtain ⟨j, g', h1, h2, h3⟩ := mem_plFrom.mp hy
      exact .inl (show n < y.1 by omega)
theorem places_sorted {b : List G} (h : VB b) : (places b).Pairwise plt := plFrom_sorted h.each
theorem places_nodup {b : List G} (h : VB b) : (places b).Nodup := (places_sorted h).imp fun hab z => by subst z; rcases hab with h | h <;> omega

/-! ### numbers of places -/
def numF : Nat → List (Nat × Nat) → List (Val × Val)
  | _, [] => []
  | n, p :: l => (encP p, nv n) :: numF (n + 1) l
theorem key_P (p q : Nat × Nat) : keyEq (encP p) (encP q) = decide (p = q) := by
  obtain ⟨a, b⟩ := p; obtain ⟨c, d⟩ := q
  simp only [encP, nv, keyEq, flatEqL, flatEq, Prod.mk.injEq, Bool.decide_and, Bool.and_true]
  congr 1 <;> (rw [Bool.eq_iff_iff]; simp; omega)
theorem dHas_num (q : Nat × Nat) : ∀ (n : Nat) (l : List (Nat × Nat)), dHas (encP q) (numF n l) = decide (q ∈ l)
  | _, [] => rfl
  | n, p :: l => by
    simp only [numF, dHas, key_P, dHas_num q (n + 1) l, List.mem_cons, Bool.decide_or]
    congr 1
    rw [Bool.eq_iff_iff]
    simp [eq_comm]
theorem dGet_num (q : Nat × Nat) : ∀ (n : Nat) (l : List (Nat × Nat)), dGet (encP q) (numF n l) = if q ∈ l then some (nv (n + l.idxOf q)) else none
  | _, [] => rfl
  | n, p :: l => by
    simp only [numF, dGet, key_P, dGet_num q (n + 1) l, List.mem_cons, List.idxOf_cons, decide_eq_true_eq]
    by_cases h : p = q
    · subst h; simp
    · have h2 : ¬ q = p := fun z => h z.symm
      have h3 : (p == q) = false := by simpa using h
      simp only [h, h2, h3, if_false, false_or, cond_false]
      split
      · rw [show n + 1 + List.idxOf q l = n + (List.idxOf q l + 1) by omega]
      · rfl
theorem num_app : ∀ (n : Nat) (l l' : List (Nat × Nat)), numF n (l ++ l') = numF n l ++ numF (n + l.length) l'
  | n, [], l' => by simp [numF]
  | n, p :: l, l' => by
    simp only [List.cons_append, numF, num_app (n + 1) l l', List.length_cons]
    rw [show n + 1 + l.length = n + (l.length + 1) by omega]
theorem dc_num (c : Ctx) (S : Sto) (B P : Val) (x3 x5 x7 : Option Val) : ∀ (l pre : List (Nat × Nat)), (pre ++ l).Nodup →
    dcompLoop (.tup [.name 4, .name 6]) true (evalE c (.var 6)) (evalE c (.var 4)) [some B, some P, none, x3, none, x5, none, x7] (enumFrom pre.length (l.map encP)) (numF 0 pre) S = .ok (numF 0 (pre ++ l)) S
  | [], pre, _ => by simp [enumFrom, dcompLoop]
  | p :: l, pre, h => by
    have hp : p ∉ pre := by
      rw [List.nodup_append] at h
      exact fun z => h.2.2 p z p (by simp) rfl
    have ih := dc_num c S B P x3 x5 x7 l (pre ++ [p]) (by simpa using h)
    simp only [List.map_cons, enumFrom, dcompLoop, bind_tup, binds_cons, bind_name, binds_nil]
    simp
    have hk : (encP p).isKey true = true := by simp [encP, Val.isKey, Val.flatKey, nv]
    have hd : dPut (encP p) (nv pre.length) (numF 0 pre) = numF 0 (pre ++ [p]) := by
      rw [num_app]
      simp [dPut, dHas_num, hp, numF]
    rw [hk]
    simp only [if_true]
    show dcompLoop _ _ _ _ _ _ (dPut (encP p) (nv pre.length) (numF 0 pre)) S = _
    rw [hd]
    simpa using ih
/-! ### pairs -/
def prFrom (b : List G) : Nat → List (Nat × Nat) → List (Nat × Nat)
  | _, [] => []
  | n, q :: l => (if mt b q ∈ places b ∧ n < (places b).idxOf (mt b q) then [(n, (places b).idxOf (mt b q))] else []) ++ prFrom b (n + 1) l
def pairs (b : List G) : List (Nat × Nat) := prFrom b 0 (places b)
theorem sheets_at {b : List G} (i : Nat) {g : G} (h : b[i]? = some g) (S : Sto) : item S (encB b) (nv i) = some (encG g) := by
  have hl := (List.getElem?_eq_some_iff.mp h).1
  have hq := (List.getElem?_eq_some_iff.mp h).2
  simp [encB, nv, item, itemOf, atI, ixN, hl, hq]
theorem sheet0 (g : G) (S : Sto) : item S (encG g) (.int 0) = some (nv g.1) := by simp [encG, item, itemOf, atI, ixN]
theorem sheet1 (g : G) (S : Sto) : item S (encG g) (.int 1) = some (.tup (g.2.map nv)) := by simp [encG, item, itemOf, atI, ixN]
theorem pr_loop (k : Nat) (S : Sto) {b : List G} (hb : VB b) : ∀ (l : List (Nat × Nat)) (n : Nat) (acc : List Val) (x4 x5 x6 x7 : Option Val), (∀ q ∈ l, q ∈ places b) → acc.length + l.length ≤ lim → ∃ y4 y5 y6 y7,
    forLoop (.tup [.name 4, .tup [.name 5, .name 6]]) (execSs (cxt prog k S.length) [.asg (.name 7) (.tup [.var 5, .bin .sub (.bin .add (.bin .mul (.lit (.int 2)) (.idx (.idx (.var 0) (.var 5)) (.lit (.int 0)))) (.lit (.int 1))) (.var 6)]),
        .if_ (.and [.cmp .in_ (.var 7) (.var 2), .cmp .gt (.idx (.var 2) (.var 7)) (.var 4)]) [.expr (.append (.var 3) (.tup [.var 4, .idx (.var 2) (.var 7)]))] []])
      (enumFrom n (l.map encP)) [some (encB b), some (.lst false ((places b).map encP)), some (.dic false true (numF 0 (places b))), some (.ref S.length), x4, x5, x6, x7] (S ++ [.lst acc])
      = .ok (.nx, [some (encB b), some (.lst false ((places b).map encP)), some (.dic false true (numF 0 (places b))), some (.ref S.length), y4, y5, y6, y7]) (S ++ [.lst (acc ++ (prFrom b n l).map encP)])
  | [], n, acc, x4, x5, x6, x7, _, _ => ⟨x4, x5, x6, x7, by simp [enumFrom, forLoop, prFrom]⟩
  | q :: l, n, acc, x4, x5, x6, x7, h, hl => by
    obtain ⟨g, hg, vg, hsh, hp1, hp2⟩ := place_ok hb (h q (by simp))
    simp only [List.length_cons] at hl
    have hm : mt b q = (q.1, 2 * g.1 + 1 - q.2) := by simp [mt, hsh]
    have hv : (Val.tup [nv q.1, .int (2 * (g.1 : Int) + 1 - (q.2 : Int))]) = encP (mt b q) := by
      rw [hm]
      simp only [encP, nv, Val.tup.injEq, List.cons.injEq, Val.int.injEq, and_true, true_and]
      omega
    have hk : (encP (mt b q)).isKey true = true := by simp [encP, Val.isKey, Val.flatKey, nv]
    obtain ⟨y4, y5, y6, y7, ih⟩ := pr_loop k S hb l (n + 1) (acc ++ (if mt b q ∈ places b ∧ n < (places b).idxOf (mt b q) then [(n, (places b).idxOf (mt b q))] else []).map encP) (some (nv n)) (some (nv q.1)) (some (nv q.2)) (some (encP (mt b q)))
      (fun q hq => h q (List.mem_cons_of_mem _ hq)) (by split <;> simp <;> omega)
    refine ⟨y4, y5, y6, y7, ?_⟩
    have hn : (.int (n : Int) : Val) = nv n := rfl
    have he : encP q = .tup [nv q.1, nv q.2] := rfl
    have hb2 : QE.bin (S ++ [.lst acc]) .mul (.int 2) (nv g.1) = some (.int (2 * g.1)) := by simp [QE.bin, mulV, nv, sm2]
    have hb3 : QE.bin (S ++ [.lst acc]) .add (.int (2 * g.1)) (.int 1) = some (.int (2 * g.1 + 1)) := rfl
    have hb4 : QE.bin (S ++ [.lst acc]) .sub (.int (2 * g.1 + 1)) (nv q.2) = some (.int (2 * (g.1 : Int) + 1 - (q.2 : Int))) := rfl
    have hin : QE.cmp (S ++ [.lst acc]) .in_ (encP (mt b q)) (.dic false true (numF 0 (places b))) = some (decide (mt b q ∈ places b)) := by
      simp only [QE.cmp, isIn, asList, asDic, hasDic, hk, if_true, dGet_num]
      split <;> simp_all
    simp only [List.map_cons, enumFrom, forLoop, he, bind_tup, binds_cons, bind_name, binds_nil, hn]
    by_cases hmem : mt b q ∈ places b
    · have hit : item (S ++ [.lst acc]) (.dic false true (numF 0 (places b))) (encP (mt b q)) = some (nv ((places b).idxOf (mt b q))) := by
        simp [item, asList, asDic, itemDic, hk, dGet_num, hmem]
      have hgt : QE.cmp (S ++ [.lst acc]) .gt (nv ((places b).idxOf (mt b q))) (nv n) = some (decide (n < (places b).idxOf (mt b q))) := by
        simp [QE.cmp, gtVal, nv]
      by_cases hlt : n < (places b).idxOf (mt b q)
      · simp [hmem, hlt] at ih
        have hz : acc.length < 16777216 := by have : acc.length < lim := by omega
                                              exact this
        simp [sheets_at q.1 hg, sheet0, hb2, hb3, hb4, hv, lim, hin, hmem, hit, hgt, hlt, asList, QE.append, mayPut, prFrom, hz]
        exact ih
      · simp [hmem, hlt] at ih
        simp [sheets_at q.1 hg, sheet0, hb2, hb3, hb4, hv, lim, hin, hmem, hit, hgt, hlt, prFrom]
        simpa using ih
    · simp [hmem] at ih
      simp [sheets_at q.1 hg, sheet0, hb2, hb3, hb4, hv, lim, hin, hmem, prFrom]
      simpa using ih
theorem prFrom_len (b : List G) : ∀ (l : List (Nat × Nat)) (n : Nat), (prFrom b n l).length ≤ l.length
  | [], _ => by simp [prFrom]
  | q :: l, n => by
    have := prFrom_len b l (n + 1)
    simp only [prFrom, List.length_append, List.length_cons]
    split <;> simp <;> omega
theorem pairs_len {b : List G} (h : VB b) : (pairs b).length ≤ 80 := Nat.le_trans (prFrom_len b _ 0) (places_len h)
theorem pr (k : Nat) (S : Sto) {b : List G} (h : VB b) : callFn prog (k + 2) 9 [encB b] S = .ok (.lst true ((pairs b).map encP)) S := by
  rw [run_fn (d := d_pairs_in) rfl rfl]
  have hl := places_len h
  have hd := ev_dcomp (c := cxt prog (k + 1) S.length) (own := [4, 6]) (tg := .tup [.name 4, .name 6]) (src := .enum (.var 1)) (t := true) (k := .var 6) (v := .var 4) (env := [some (encB b), some (.lst false ((places b).map encP)), none, none, none, none, none, none]) (S := S) (S1 := S) (S2 := S)
    (xs := enumFrom 0 ((places b).map encP)) (by simp [seqOf]) (dc_num _ S (encB b) _ none none none (places b) [] (by simpa using places_nodup h)) (by
      have : ∀ (n : Nat) (l : List Val), (enumFrom n l).length = l.length := by
        intro n l
        induction l generalizing n with
        | nil => rfl
        | cons x l ih => simp [enumFrom, ih]
      rw [this, List.length_map]
      simp only [lim]
      omega)
  obtain ⟨y4, y5, y6, y7, hf⟩ := pr_loop (k + 1) S h (places b) 0 [] none none none none (fun q hq => hq) (by simp [lim]; omega)
  have hx := x_for (c := cxt prog (k + 1) S.length) (env := [some (encB b), some (.lst false ((places b).map encP)), some (.dic false true (numF 0 (places b))), some (.ref S.length), none, none, none, none]) (S := S ++ [.lst []]) (src := .enum (.var 1)) (xs := enumFrom 0 ((places b).map encP)) (S1 := S ++ [.lst []]) (by simp [seqOf]) hf
  simp only [d_pairs_in, xs_cons, x_asg, ev_cell, ev_list, es_nil]
  simp [pl k S h, hd, newCell, lim]
  rw [hx]
  simp
  exact fin_cell S _ _ (lowL_P _ _)
end K10

set_option linter.all false
set_option maxRecDepth 10000
namespace K10
open QE
theorem len_lim {α : Type} {l : List α} (h : l.length ≤ 80) : l.length ≤ lim := by simp only [lim]; omega
theorem encP_eq (p : Nat × Nat) : encP p = .tup [nv p.1, nv p.2] := rfl
theorem int_nv (n : Nat) : (.int (n : Int) : Val) = nv n := rfl
theorem range_nv (n : Nat) : rangeV 0 n = (List.range n).map nv := by
  rw [rangeV_map]
  apply List.map_congr_left
  intro i _
  simp [nv]
theorem rng_ok (S : Sto) (n : Nat) (h : n ≤ 1000) : rangeOf S 0 (n : Int) = .ok ((List.range n).map nv) S := by
  unfold rangeOf
  rw [if_pos (by omega), ← range_nv]
  simp
/-! ### lone leaves -/
def jn (b : List G) : List Nat := (pairs b).flatMap fun p => [p.1, p.2]
theorem jn_loop (k : Nat) (S : Sto) (B : Val) : ∀ (l : List (Nat × Nat)) (acc : List Nat) (x2 x3 : Option Val), acc.length + 2 * l.length ≤ lim → ∃ y2 y3,
    forLoop (.tup [.name 2, .name 3]) (execSs (cxt prog k S.length) [.ext 1 (.list [.var 2, .var 3])]) (l.map encP) [some B, some (.ref S.length), x2, x3, none] (S ++ [.lst (acc.map nv)])
      = .ok (.nx, [some B, some (.ref S.length), y2, y3, none]) (S ++ [.lst ((acc ++ l.flatMap fun p => [p.1, p.2]).map nv)])
  | [], acc, x2, x3, _ => ⟨x2, x3, by simp [forLoop]⟩
  | p :: l, acc, x2, x3, h => by
    simp only [List.length_cons] at h
    obtain ⟨y2, y3, ih⟩ := jn_loop k S B l (acc ++ [p.1, p.2]) (some (nv p.1)) (some (nv p.2)) (by simp; omega)
    refine ⟨y2, y3, ?_⟩
    have hz : acc.length + 2 ≤ 16777216 := by
      have : acc.length + 2 ≤ lim := by omega
      exact this
    simp only [List.map_cons, forLoop, encP_eq, bind_tup, binds_cons, bind_name, binds_nil]
    simp [lim, QE.extend, asList, hz]
    simpa [encP_eq] using ih
theorem any_nv (i : Nat) : ∀ l : List Nat, ((l.map nv).any fun y => y.eqv (nv i)) = decide (i ∈ l)
  | [] => rfl
  | n :: l => by
    simp only [List.map_cons, List.any_cons, any_nv i l, List.mem_cons, Bool.decide_or]
    congr 1
    rw [Bool.eq_iff_iff]
    simp [nv, Val.eqv]
    omega
theorem any_nv' (i : Nat) (l : List Nat) : l.any ((fun y => y.eqv (nv i)) ∘ nv) = decide (i ∈ l) := by rw [← List.any_map]; exact any_nv i l
theorem chk_nv (d : Nat) : ∀ l : List Nat, Val.chkL d (l.map nv) = true
  | [] => by cases d <;> rfl
  | n :: l => by
    have := chk_nv d l
    cases d <;> simp [Val.chkL, Val.chk, nv, this] <;> exact this
theorem lowL_nv (b : Nat) : ∀ l : List Nat, Val.lowL b (l.map nv) = true
  | [] => rfl
  | n :: l => by simp [Val.lowL, Val.low, nv, lowL_nv b l]
def lones (b : List G) : List Nat := (List.range (places b).length).filter fun i => !decide (i ∈ jn b)
theorem ln (k : Nat) (S : Sto) {b : List G} (h : VB b) : callFn prog (k + 3) 10 [encB b] S = .ok (.lst true ((lones b).map nv)) S := by
  rw [run_fn (d := d_lone_in) rfl rfl]
  have hl := places_len h
  have hl2 := pairs_len h
  obtain ⟨y2, y3, hf⟩ := jn_loop (k + 2) S (encB b) (pairs b) [] none none (by simp [lim]; omega)
  have hx := x_for (c := cxt prog (k + 2) S.length) (env := [some (encB b), some (.ref S.length), none, none, none]) (S := S ++ [.lst []]) (src := .it (.call 9 [.var 0])) (xs := (pairs b).map encP) (S1 := S ++ [.lst []]) (by simp [pr k _ h, walkOf]) (by simpa using hf)
  have hc := ev_comp (c := cxt prog (k + 2) S.length) (own := [4]) (tg := .name 4) (src := .rng1 (.bi .len [.call 8 [.var 0]])) (ifs := [.cmp .nin (.var 4) (.var 1)]) (elt := .var 4) (env := [some (encB b), some (.ref S.length), y2, y3, none]) (S := S ++ [.lst ((jn b).map nv)]) (S1 := S ++ [.lst ((jn b).map nv)]) (S2 := S ++ [.lst ((jn b).map nv)])
    (xs := (List.range (places b).length).map nv) (by
      simp [pl (k + 1) _ h, callBi, lenOf, asSeq, asList]
      exact rng_ok _ _ (by omega))
    (comp_run nv (fun i => !decide (i ∈ jn b)) nv _ fun i _ => ⟨[some (encB b), some (.ref S.length), y2, y3, some (nv i)], by simp [wipe], by
      simp [QE.cmp, isIn, asList, anyEq, chk_nv, any_nv', nt, show (nv i).chk 64 = true from rfl]
      , fun _ => by simp⟩)
    (by
      rw [List.length_map]
      exact Nat.le_trans (List.length_filter_le _ _) (by rw [List.length_range]; exact len_lim hl))
  simp only [d_lone_in, xs_cons, x_asg, ev_cell, ev_list, es_nil]
  simp [newCell, lim]
  rw [hx]
  have hj : (pairs b).flatMap (fun p => [p.1, p.2]) = jn b := rfl
  simp [hj, hc]
  simp [finish, freeze, freeze1, Val.low, lowL_nv, lones]
/-! ### places, marks, leaves -/
theorem nl (k : Nat) (S : Sto) {b : List G} (h : VB b) (i : Nat) (hi : i < (places b).length) : callFn prog (k + 3) 7 [encB b, nv i] S = .ok .non S := by
  rw [run_fn (d := d_need_leaf) rfl rfl]
  have f1 := fw_int k i 0 ((places b).length - 1) S
  rw [show (decide ((0 : Int) ≤ (i : Int)) && decide ((i : Int) ≤ ((places b).length : Int) - 1)) = true by simp; omega] at f1
  simp [d_need_leaf, pl (k + 1) S h, callBi, lenOf, asSeq, asList, QE.bin, subV, nv, f1]
theorem lm (k : Nat) (S : Sto) {b : List G} (h : VB b) : callFn prog (k + 6) 18 [encB b] S = .ok (nv (places b).length) S := by
  rw [run_fn (d := d_leaves_many) rfl rfl]
  simp [d_leaves_many, nbV k S h, pl (k + 4) S h, callBi, lenOf, asSeq, asList, nv]
theorem mk (k : Nat) (S : Sto) {b : List G} (h : VB b) : callFn prog (k + 6) 22 [encB b] S = .ok (.tup [.tup ((pairs b).map encP), .tup ((lones b).map nv)]) S := by
  rw [run_fn (d := d_marks_of) rfl rfl]
  simp [d_marks_of, nbV k S h, pr (k + 3) S h, ln (k + 2) S h, callBi, tupleOf, asSeq, asList, lim]
theorem place_at {b : List G} (i : Nat) (S : Sto) (f : Bool) {q : Nat × Nat} (h : (places b)[i]? = some q) : item S (.lst f ((places b).map encP)) (nv i) = some (encP q) := by
  have hl := (List.getElem?_eq_some_iff.mp h).1
  have hq := (List.getElem?_eq_some_iff.mp h).2
  simp [nv, item, asList, itemOf, atI, ixN, hl, hq]
theorem po (k : Nat) (S : Sto) {b : List G} (h : VB b) (i : Nat) {q : Nat × Nat} (hq : (places b)[i]? = some q) : callFn prog (k + 6) 20 [encB b, nv i] S = .ok (encP q) S := by
  have hi := (List.getElem?_eq_some_iff.mp hq).1
  rw [run_fn (d := d_place_of) rfl rfl]
  simp [d_place_of, nbV k S h, nl (k + 2) S h i hi, pl (k + 4) S h, place_at i S true hq]
/-! ### sides -/
def sH : Val := .str [104]
def sF : Val := .str [102]
def encS (n : Nat) : Val := .tup [if n % 2 = 1 then sH else sF, if n % 2 = 1 then sF else sH]
theorem so (k : Nat) (S : Sto) {b : List G} (h : VB b) (i : Nat) {q : Nat × Nat} (hq : (places b)[i]? = some q) : callFn prog (k + 6) 23 [encB b, nv i] S = .ok (encS q.2) S := by
  have hi := (List.getElem?_eq_some_iff.mp hq).1
  obtain ⟨g, hg, vg, hsh, hp1, hp2⟩ := place_ok h (List.mem_of_getElem? hq)
  rw [run_fn (d := d_sides_of) rfl rfl]
  have hb2 : QE.bin S .mul (.int 2) (nv g.1) = some (.int (2 * g.1)) := by simp [QE.bin, mulV, nv, sm2]
  have hb3 : QE.bin S .add (.int (2 * g.1)) (.int 1) = some (.int (2 * g.1 + 1)) := rfl
  have hb4 : QE.bin S .sub (.int (2 * g.1 + 1)) (nv q.2) = some (.int (2 * (g.1 : Int) + 1 - (q.2 : Int))) := rfl
  have hmin : callBi S .min2 [nv q.2, .int (2 * (g.1 : Int) + 1 - (q.2 : Int))] = some (nv (if q.2 ≤ g.1 then q.2 else 2 * g.1 + 1 - q.2)) := by
    simp only [callBi, nv, Option.some.injEq, Val.int.injEq]
    split <;> split <;> omega
  generalize hn : (if q.2 ≤ g.1 then q.2 else 2 * g.1 + 1 - q.2) = n at hmin
  have hmod : QE.bin S .mod (nv n) (.int 2) = some (nv (n % 2)) := by
    simp only [QE.bin, modV, nv]
    rw [if_pos (by omega)]
    congr 2
    rw [Int.fmod_eq_emod_of_nonneg _ (by omega)]
    omega
  have he1 : QE.cmp S .eq (nv (n % 2)) (.int 1) = some (decide (n % 2 = 1)) := by
    simp only [QE.cmp, eqVal, res, nv]
    simp [Val.chk, Val.eqv]
    rw [Bool.eq_iff_iff]
    simp
    omega
  have he2 : QE.cmp S .eq (nv q.2) (nv n) = some (decide (q.2 = n)) := by
    simp only [QE.cmp, eqVal, res, nv]
    simp [Val.chk, Val.eqv]
    rw [Bool.eq_iff_iff]
    simp
    omega
  have hpar : ¬ q.2 = n → (q.2 % 2 = 1 ↔ ¬ n % 2 = 1) := fun z => by
    split at hn <;> omega
  have hpar2 : q.2 = n → (q.2 % 2 = 1 ↔ n % 2 = 1) := fun z => by rw [z]
  simp only [d_sides_of, xs_cons, x_expr, x_asg]
  by_cases c1 : n % 2 = 1 <;> by_cases c2 : q.2 = n
  · have c3 := (hpar2 c2).mpr c1
    have hv1 : QE.cmp S .eq (nv (n % 2)) (.int 1) = some true := by rw [he1, decide_eq_true c1]
    have hv2 : QE.cmp S .eq (nv q.2) (nv n) = some true := by rw [he2, decide_eq_true c2]
    simp [nbV k S h, nl (k + 2) S h i hi, pl (k + 4) S h, place_at i S true hq, encP_eq, sheets_at q.1 hg, sheet0, hb2, hb3, hb4, hmin, hmod, hv1, hv2, lim, encS, sH, sF, c3]
  · have c3 : ¬ q.2 % 2 = 1 := fun z => (hpar c2).mp z c1
    have hv1 : QE.cmp S .eq (nv (n % 2)) (.int 1) = some true := by rw [he1, decide_eq_true c1]
    have hv2 : QE.cmp S .eq (nv q.2) (nv n) = some false := by rw [he2, decide_eq_false c2]
    simp [nbV k S h, nl (k + 2) S h i hi, pl (k + 4) S h, place_at i S true hq, encP_eq, sheets_at q.1 hg, sheet0, hb2, hb3, hb4, hmin, hmod, hv1, hv2, lim, encS, sH, sF, c3]
  · have c3 : ¬ q.2 % 2 = 1 := fun z => c1 ((hpar2 c2).mp z)
    have hv1 : QE.cmp S .eq (nv (n % 2)) (.int 1) = some false := by rw [he1, decide_eq_false c1]
    have hv2 : QE.cmp S .eq (nv q.2) (nv n) = some true := by rw [he2, decide_eq_true c2]
    simp [nbV k S h, nl (k + 2) S h i hi, pl (k + 4) S h, place_at i S true hq, encP_eq, sheets_at q.1 hg, sheet0, hb2, hb3, hb4, hmin, hmod, hv1, hv2, lim, encS, sH, sF, c3]
  · have c3 := (hpar c2).mpr c1
    have hv1 : QE.cmp S .eq (nv (n % 2)) (.int 1) = some false := by rw [he1, decide_eq_false c1]
    have hv2 : QE.cmp S .eq (nv q.2) (nv n) = some false := by rw [he2, decide_eq_false c2]
    simp [nbV k S h, nl (k + 2) S h i hi, pl (k + 4) S h, place_at i S true hq, encP_eq, sheets_at q.1 hg, sheet0, hb2, hb3, hb4, hmin, hmod, hv1, hv2, lim, encS, sH, sF, c3]
end K10

set_option linter.all false
set_option maxRecDepth 10000
namespace K10
open QE
/-! ### the mathematics of mates -/
def pq (b : List G) (i : Nat) : Nat × Nat := (places b)[i]?.getD (0, 0)
theorem pq_of {b : List G} {i : Nat} {q : Nat × Nat} (h : (places b)[i]? = some q) : pq b i = q := by simp [pq, h]
theorem pq_get {b : List G} {i : Nat} (h : i < (places b).length) : (places b)[i]? = some (pq b i) := by simp [pq, h]
theorem pq_mem {b : List G} {i : Nat} (h : i < (places b).length) : pq b i ∈ places b := List.mem_of_getElem? (pq_get h)
theorem mt_mt {b : List G} (h : VB b) {q : Nat × Nat} (hq : q ∈ places b) : mt b (mt b q) = q := by
  obtain ⟨g, hg, vg, hsh, h1, h2⟩ := place_ok h hq
  obtain ⟨x, y⟩ := q
  simp only [mt, Prod.mk.injEq, true_and] at *
  rw [hsh]
  omega
theorem mt_ne {b : List G} (h : VB b) {q : Nat × Nat} (hq : q ∈ places b) : mt b q ≠ q := by
  obtain ⟨g, hg, vg, hsh, h1, h2⟩ := place_ok h hq
  intro z
  have : 2 * sh b q.1 + 1 - q.2 = q.2 := congrArg Prod.snd z
  rw [hsh] at this
  omega
def ix (b : List G) (q : Nat × Nat) : Nat := (places b).idxOf q
theorem ix_lt {b : List G} {q : Nat × Nat} (h : q ∈ places b) : ix b q < (places b).length := List.idxOf_lt_length_of_mem h
theorem pq_ix {b : List G} {q : Nat × Nat} (h : q ∈ places b) : pq b (ix b q) = q := by
  have := ix_lt h
  rw [pq, List.getElem?_eq_getElem this]
  simp [ix]
theorem ix_pq {b : List G} (h : VB b) {i : Nat} (hi : i < (places b).length) : ix b (pq b i) = i := by
  have nd := places_nodup h
  have hj := ix_lt (pq_mem hi)
  have e := pq_ix (pq_mem hi)
  have g1 := pq_get hi
  have g2 := pq_get hj
  rw [e] at g2
  exact (List.getElem?_inj hj nd).mp (g2.trans g1.symm)
theorem pq_inj {b : List G} (h : VB b) {i j : Nat} (hi : i < (places b).length) (hj : j < (places b).length) (e : pq b i = pq b j) : i = j := by
  rw [← ix_pq h hi, ← ix_pq h hj, e]
/-- the mate's number -/
def mi (b : List G) (i : Nat) : Nat := ix b (mt b (pq b i))
def has (b : List G) (i : Nat) : Prop := mt b (pq b i) ∈ places b
instance (b : List G) (i : Nat) : Decidable (has b i) := inferInstanceAs (Decidable (_ ∈ _))
theorem mi_lt {b : List G} {i : Nat} (hm : has b i) : mi b i < (places b).length := ix_lt hm
theorem pq_mi {b : List G} {i : Nat} (hm : has b i) : pq b (mi b i) = mt b (pq b i) := pq_ix hm
theorem has_mi {b : List G} (h : VB b) {i : Nat} (hi : i < (places b).length) (hm : has b i) : has b (mi b i) := by
  unfold has
  rw [pq_mi hm, mt_mt h (pq_mem hi)]
  exact pq_mem hi
theorem mi_mi {b : List G} (h : VB b) {i : Nat} (hi : i < (places b).length) (hm : has b i) : mi b (mi b i) = i := by
  unfold mi
  rw [show ix b (mt b (pq b i)) = mi b i from rfl, pq_mi hm, mt_mt h (pq_mem hi), ix_pq h hi]
theorem mi_ne {b : List G} (h : VB b) {i : Nat} (hi : i < (places b).length) (hm : has b i) : mi b i ≠ i := by
  intro z
  have := pq_mi hm
  rw [z] at this
  exact mt_ne h (pq_mem hi) this.symm
theorem prFrom_eq {b : List G} (h : VB b) : ∀ (l : List (Nat × Nat)) (n : Nat), (∀ i q, l[i]? = some q → (places b)[n + i]? = some q) → prFrom b n l = ((List.range l.length).map (n + ·)).filterMap fun i => if has b i ∧ i < mi b i then some (i, mi b i) else none
  | [], n, _ => by simp [prFrom]
  | q :: l, n, hl => by
    have h0 := pq_of (hl 0 q rfl)
    rw [Nat.add_zero] at h0
    have ih := prFrom_eq h l (n + 1) fun i q' hq => by
      have := hl (i + 1) q' (by simpa using hq)
      rwa [show n + (i + 1) = n + 1 + i by omega] at this
    have hr : (List.range (q :: l).length).map (n + ·) = n :: (List.range l.length).map (n + 1 + ·) := by
      rw [List.length_cons, List.range_succ_eq_map, List.map_cons, List.map_map, Nat.add_zero]
      congr 1
      apply List.map_congr_left
      intro i _
      simp only [Function.comp_apply]
      omega
    rw [hr, prFrom, ih, List.filterMap_cons]
    have e1 : mt b q ∈ places b ↔ has b n := by unfold has; rw [h0]
    have e2 : (places b).idxOf (mt b q) = mi b n := by unfold mi ix; rw [h0]
    simp only [e1, e2]
    by_cases hc : has b n ∧ n < mi b n
    · simp [hc]
    · simp [hc]
theorem pairs_eq {b : List G} (h : VB b) : pairs b = (List.range (places b).length).filterMap fun i => if has b i ∧ i < mi b i then some (i, mi b i) else none := by
  have := prFrom_eq h (places b) 0 (fun i q hq => by simpa using hq)
  simpa [pairs] using this
theorem mem_pairs {b : List G} (h : VB b) {p : Nat × Nat} : p ∈ pairs b ↔ p.1 < (places b).length ∧ has b p.1 ∧ p.1 < mi b p.1 ∧ p.2 = mi b p.1 := by
  rw [pairs_eq h, List.mem_filterMap]
  constructor
  · rintro ⟨i, hi, q⟩
    split at q
    · rename_i hc
      cases q
      exact ⟨List.mem_range.mp hi, hc.1, hc.2, rfl⟩
    · cases q
  · rintro ⟨h1, h2, h3, h4⟩
    refine ⟨p.1, List.mem_range.mpr h1, ?_⟩
    rw [if_pos ⟨h2, h3⟩, ← h4]
theorem mem_jn {b : List G} (h : VB b) {i : Nat} (hi : i < (places b).length) : i ∈ jn b ↔ has b i := by
  unfold jn
  rw [List.mem_flatMap]
  constructor
  · rintro ⟨p, hp, hm⟩
    obtain ⟨h1, h2, h3, h4⟩ := (mem_pairs h).mp hp
    simp at hm
    rcases hm with rfl | rfl
    · exact h2
    · rw [h4]; exact has_mi h h1 h2
  · intro hm
    have hne := mi_ne h hi hm
    by_cases hlt : i < mi b i
    · exact ⟨(i, mi b i), (mem_pairs h).mpr ⟨hi, hm, hlt, rfl⟩, by simp⟩
    · refine ⟨(mi b i, i), (mem_pairs h).mpr ⟨mi_lt hm, has_mi h hi hm, ?_, ?_⟩, by simp⟩
      · show mi b i < mi b (mi b i)
        rw [mi_mi h hi hm]; omega
      · show i = mi b (mi b i)
        rw [mi_mi h hi hm]
theorem lones_eq {b : List G} (h : VB b) : lones b = (List.range (places b).length).filter fun i => decide (¬ has b i) := by
  unfold lones
  apply List.filter_congr
  intro i hi
  have := mem_jn h (List.mem_range.mp hi)
  rw [Bool.eq_iff_iff]
  simp [this]
theorem jn_lt {b : List G} (h : VB b) {i : Nat} (hi : i ∈ jn b) : i < (places b).length := by
  unfold jn at hi
  obtain ⟨p, hp, hm⟩ := List.mem_flatMap.mp hi
  obtain ⟨h1, h2, h3, h4⟩ := (mem_pairs h).mp hp
  simp at hm
  rcases hm with rfl | rfl
  · exact h1
  · rw [h4]; exact mi_lt h2
theorem pairs_sorted {b : List G} (h : VB b) : (pairs b).Pairwise (fun p p' => p.1 < p'.1) := by
  rw [pairs_eq h, List.pairwise_filterMap]
  refine List.Pairwise.imp ?_ (List.pairwise_lt_range)
  intro i j hij p hp p' hp'
  split at hp <;> cases hp
  split at hp' <;> cases hp'
  exact hij
theorem jn_nodup {b : List G} (h : VB b) : (jn b).Nodup := by
  unfold jn List.Nodup
  rw [List.pairwise_flatMap]
  refine ⟨fun p hp => ?_, (pairs_sorted h).imp_of_mem fun hp hp' hlt x hx y hy => ?_⟩
  · obtain ⟨h1, h2, h3, h4⟩ := (mem_pairs h).mp hp
    simp
    omega
  · obtain ⟨h1, h2, h3, h4⟩ := (mem_pairs h).mp hp
    obtain ⟨k1, k2, k3, k4⟩ := (mem_pairs h).mp hp'
    rename_i p p'
    simp at hx hy
    have inj : mi b p.1 = mi b p'.1 → p.1 = p'.1 := fun z => by
      rw [← mi_mi h h1 h2, ← mi_mi h k1 k2, z]
    rcases hx with rfl | rfl <;> rcases hy with rfl | rfl
    · omega
    · intro z
      have : mi b p.1 = p'.1 := by rw [z, k4, mi_mi h k1 k2]
      omega
    · intro z
      have : mi b p'.1 = p.1 := by rw [← z, h4, mi_mi h h1 h2]
      omega
    · intro z
      rw [h4, k4] at z
      have := inj z
      omega
theorem all_nodup {b : List G} (h : VB b) : (jn b ++ lones b).Nodup := by
  rw [List.nodup_append]
  refine ⟨jn_nodup h, List.Pairwise.filter _ List.nodup_range, fun x hx y hy z => ?_⟩
  subst z
  simp [lones] at hy
  exact hy.2 hx
end K10

set_option linter.all false
set_option maxRecDepth 10000
namespace K10
open QE
/-! ### lost leaves -/
def lostI (b : List G) : Int := (b.map fun g => 2 * (g.1 : Int) - (g.2.length : Int)).sum
theorem lo (k : Nat) (S : Sto) {b : List G} (h : VB b) : callFn prog (k + 6) 19 [encB b] S = .ok (.int (lostI b)) S := by
  rw [run_fn (d := d_lost_many) rfl rfl]
  have hc := ev_comp (c := cxt prog (k + 5) S.length) (own := [1, 2]) (tg := .tup [.name 1, .name 2]) (src := .it (.var 0)) (ifs := []) (elt := .bin .sub (.bin .mul (.lit (.int 2)) (.var 1)) (.bi .len [.var 2])) (env := [some (encB b), none, none]) (S := S) (S1 := S) (S2 := S)
    (xs := b.map encG) (by simp [encB, walkOf])
    (comp_all encG (fun g => .int (2 * (g.1 : Int) - (g.2.length : Int))) b fun g _ => ⟨[some (encB b), some (nv g.1), some (.tup (g.2.map nv))], by simp [wipe, encG], by
      simp [QE.bin, mulV, subV, nv, sm2, callBi, lenOf, asSeq]⟩)
    (by rw [List.length_map]; have := h.few; exact len_lim (by omega))
  simp [d_lost_many, nbV k S h, hc, callBi, intsV, asList, ints_map, lostI]
/-! ### openings -/
def SL (b : List G) : List Val := (List.range (places b).length).map fun i => encS (pq b i).2
theorem SL_at {b : List G} {i : Nat} (hi : i < (places b).length) (S : Sto) (f : Bool) : item S (.lst f (SL b)) (nv i) = some (encS (pq b i).2) := by
  simp [SL, nv, item, asList, itemOf, atI, ixN, hi]
theorem encS0 (n : Nat) (S : Sto) : item S (encS n) (.int 0) = some (if n % 2 = 1 then sH else sF) := by simp [encS, item, itemOf, atI, ixN]
theorem encS1 (n : Nat) (S : Sto) : item S (encS n) (.int 1) = some (if n % 2 = 1 then sF else sH) := by simp [encS, item, itemOf, atI, ixN]
theorem ne_sides (m n : Nat) (S : Sto) : QE.cmp S .ne (if m % 2 = 1 then sF else sH) (if n % 2 = 1 then sH else sF) = some (decide (m % 2 = n % 2)) := by
  by_cases h1 : m % 2 = 1 <;> by_cases h2 : n % 2 = 1 <;> simp [h1, h2, sH, sF, QE.cmp, eqVal, res, Val.chk, Val.eqv, nt] <;> omega
def unl (b : List G) : List Nat := (List.range ((places b).length - 1)).filter fun i => decide ((pq b i).2 % 2 = (pq b (i + 1)).2 % 2)
theorem nv_add (n : Nat) (S : Sto) : QE.bin S .add (nv n) (.int 1) = some (nv (n + 1)) := by simp [QE.bin, addV, nv]
theorem nv_sub (n : Nat) (h : 1 ≤ n) (S : Sto) : QE.bin S .sub (.int n) (.int 1) = some (nv (n - 1)) := by
  simp only [QE.bin, subV, nv, Option.some.injEq, Val.int.injEq]
  omega
theorem places_pos {b : List G} (h : VB b) : 1 ≤ (places b).length := by
  cases hb : b with
  | nil => have := h.ne; rw [hb] at this; simp at this
  | cons g b' =>
    have hg := (h.each g (by rw [hb]; simp)).ne
    cases hp : g.2 with
    | nil => exact absurd hp hg
    | cons p ps => simp [places, plFrom, hp]
theorem bind_int (n : Nat) (S : Sto) : asInt (nv n) S = .ok (n : Int) S := by exact id rfl
theorem un (k : Nat) (S : Sto) {b : List G} (h : VB b) : callFn prog (k + 7) 24 [encB b] S = .ok (.tup ((unl b).map nv)) S := by
  rw [run_fn (d := d_unlike_openings) rfl rfl]
  have hl := places_len h
  have h1 := places_pos h
  have hs : evalSrc (cxt prog (k + 6) S.length) (.rng1 (.bi .len [.call 8 [.var 0]])) [some (encB b), none, none, none] S = .ok ((List.range (places b).length).map nv) S := by
    simp [pl (k + 5) S h, callBi, lenOf, asSeq, asList]
    exact rng_ok _ _ (by omega)
  have hc := ev_comp (c := cxt prog (k + 6) S.length) (own := [2]) (tg := .name 2) (ifs := []) (elt := .call 23 [.var 0, .var 2]) hs
    (comp_all nv (fun i => encS (pq b i).2) _ fun i hi => ⟨[some (encB b), none, some (nv i), none], by simp [wipe], by
      have hi := List.mem_range.mp hi
      simp [so k S h i (pq_get hi)]⟩)
    (by rw [List.length_map, List.length_range]; exact len_lim hl)
  have hSL : (List.range (places b).length).map (fun i => (encS (pq b i).2).settle) = SL b := rfl
  rw [hSL] at hc
  have hs2 : evalSrc (cxt prog (k + 6) S.length) (.rng1 (.bin .sub (.bi .len [.var 1]) (.lit (.int 1)))) [some (encB b), some (.lst false (SL b)), none, none] S = .ok ((List.range ((places b).length - 1)).map nv) S := by
    have hlen : (SL b).length = (places b).length := by simp [SL]
    simp [callBi, lenOf, asSeq, asList, hlen, nv_sub _ h1, bind_int]
    exact rng_ok _ _ (by omega)
  have hc2 := ev_comp (c := cxt prog (k + 6) S.length) (own := [3]) (tg := .name 3) (ifs := [.cmp .ne (.idx (.idx (.var 1) (.var 3)) (.lit (.int 1))) (.idx (.idx (.var 1) (.bin .add (.var 3) (.lit (.int 1)))) (.lit (.int 0)))]) (elt := .var 3) hs2
    (comp_run nv (fun i => decide ((pq b i).2 % 2 = (pq b (i + 1)).2 % 2)) nv _ fun i hi => ⟨[some (encB b), some (.lst false (SL b)), none, some (nv i)], by simp [wipe], by
      have hi := List.mem_range.mp hi
      simp [SL_at (show i < (places b).length by omega), SL_at (show i + 1 < (places b).length by omega), nv_add, encS0, encS1, ne_sides], fun _ => by simp⟩)
    (by rw [List.length_map]; exact Nat.le_trans (List.length_filter_le _ _) (by rw [List.length_range]; have := len_lim hl; omega))
  simp [d_unlike_openings, nbV (k + 1) S h, hc, hc2, callBi, tupleOf, asSeq, asList, unl]
/-! ### marks that fit -/
def marksV (b : List G) : Val := .tup [.tup ((pairs b).map encP), .tup ((lones b).map nv)]
theorem marks0 (b : List G) (S : Sto) : item S (marksV b) (.int 0) = some (.tup ((pairs b).map encP)) := by simp [marksV, item, itemOf, atI, ixN]
theorem marks1 (b : List G) (S : Sto) : item S (marksV b) (.int 1) = some (.tup ((lones b).map nv)) := by simp [marksV, item, itemOf, atI, ixN]
@[simp] theorem marks_st (b : List G) : (marksV b).settle = marksV b := by exact id rfl
theorem lt_P (p q : Nat × Nat) : ltVal (encP p) (encP q) = some (lexLtI [(p.1 : Int), p.2] [(q.1 : Int), q.2]) := by simp [encP, nv, ltVal, ints?]
theorem lones_len {b : List G} (h : VB b) : (lones b).length ≤ (places b).length := by
  unfold lones
  exact Nat.le_trans (List.length_filter_le _ _) (by rw [List.length_range]; exact Nat.le_refl _)
theorem jn_len (b : List G) : (jn b).length = 2 * (pairs b).length := by
  unfold jn
  induction pairs b with
  | nil => rfl
  | cons p l ih => simp [ih]; omega
theorem named_loop (k : Nat) (S : Sto) (A V : Val) : ∀ (l : List (Nat × Nat)) (acc : List Nat) (x3 : Option Val), acc.length + 2 * l.length ≤ lim → ∃ y3,
    forLoop (.name 3) (execSs (cxt prog k S.length) [.ext 2 (.bi .list [.var 3])]) (l.map encP) [some A, some V, some (.ref S.length), x3, none, none] (S ++ [.lst (acc.map nv)])
      = .ok (.nx, [some A, some V, some (.ref S.length), y3, none, none]) (S ++ [.lst ((acc ++ l.flatMap fun p => [p.1, p.2]).map nv)])
  | [], acc, x3, _ => ⟨x3, by simp [forLoop]⟩
  | p :: l, acc, x3, h => by
    simp only [List.length_cons] at h
    obtain ⟨y3, ih⟩ := named_loop k S A V l (acc ++ [p.1, p.2]) (some (encP p)) (by simp; omega)
    refine ⟨y3, ?_⟩
    have hz : acc.length + 2 ≤ 16777216 := by
      have : acc.length + 2 ≤ lim := by omega
      exact this
    have hp : callBi (S ++ [.lst (acc.map nv)]) .list [encP p] = some (.lst true [nv p.1, nv p.2]) := by simp [encP, callBi, listOf, asSeq]
    simp only [List.map_cons, forLoop, bind_name]
    simp [hp, lim, QE.extend, asList, hz]
    simpa using ih
theorem count_nv (i : Nat) (l : List Nat) : (l.map fun n : Nat => (n : Int)).count (i : Int) = l.count i := by
  induction l with
  | nil => rfl
  | cons n l ih =>
    simp only [List.map_cons, List.count_cons, ih]
    congr 1
    have : ((n : Int) == (i : Int)) = (n == i) := by
      rw [Bool.eq_iff_iff]; simp; omega
    rw [this]
theorem intsV_nv (S : Sto) (f : Bool) (l : List Nat) : intsV S (.lst f (l.map nv)) = some (l.map fun n : Nat => (n : Int)) := by
  simp only [intsV, asList]
  exact ints_map _ l
theorem nv_list (S : Sto) (f : Bool) (l l' : List Nat) (h : l.length + l'.length ≤ lim) : QE.bin (S ++ [.lst (l.map nv)]) .add (.ref S.length) (.lst f (l'.map nv)) = some (.lst true ((l ++ l').map nv)) := by
  simp [QE.bin, addV, asList, h]
theorem count1 (S : Sto) (i : Nat) (l : List Nat) (hnd : l.Nodup) (hi : i ∈ l) : callMe S .count (.lst true (l.map nv)) [nv i] = some (.int 1) := by
  show (match intsV S (.lst true (l.map nv)) with
    | some js => some (Val.int (js.count (i : Int)))
    | none => none) = _
  rw [intsV_nv]
  show some (Val.int _) = _
  rw [count_nv, hnd.count, if_pos hi]
  rfl
theorem fm (k : Nat) (S : Sto) {b : List G} (h : VB b) : callFn prog (k + 5) 11 [nv (places b).length, marksV b] S = .ok (.bl true) S := by
  rw [run_fn (d := d_fits_marks) rfl rfl]
  have hl := places_len h
  have hp := pairs_len h
  have hpl : (pairs b).length ≤ (places b).length := prFrom_len b _ 0
  have hln := lones_len h
  have hj := jn_len b
  have hsum : (jn b).length + (lones b).length ≤ lim := by simp only [lim]; omega
  have f0 : ∀ S', callFn prog (k + 4) 2 [marksV b, .int 2, .int 2] S' = .ok (.bl true) S' := fun S' => tu_tup (k + 3) _ 2 2 S'
  have f1 : ∀ S', callFn prog (k + 4) 2 [.tup ((pairs b).map encP), .int 0, nv (places b).length] S' = .ok (.bl true) S' := fun S' => by
    have := tu_tup (k + 3) ((pairs b).map encP) 0 (places b).length S'
    rw [show (decide ((0 : Int) ≤ ((pairs b).map encP).length) && decide ((((pairs b).map encP).length : Int) ≤ (places b).length)) = true by simp; omega] at this
    exact this
  have f2 : ∀ S', callFn prog (k + 4) 2 [.tup ((lones b).map nv), .int 0, nv (places b).length] S' = .ok (.bl true) S' := fun S' => by
    have := tu_tup (k + 3) ((lones b).map nv) 0 (places b).length S'
    rw [show (decide ((0 : Int) ≤ ((lones b).map nv).length) && decide ((((lones b).map nv).length : Int) ≤ (places b).length)) = true by simp; omega] at this
    exact this
  have hc1 := ev_comp (c := cxt prog (k + 4) S.length) (own := [3]) (tg := .name 3) (src := .it (.idx (.var 1) (.lit (.int 0)))) (ifs := []) (elt := .call 2 [.var 3, .lit (.int 2), .lit (.int 2)]) (env := [some (nv (places b).length), some (marksV b), none, none, none, none]) (S := S) (S1 := S) (S2 := S)
    (xs := (pairs b).map encP) (by simp [marks0, walkOf])
    (comp_all encP (fun _ => .bl true) (pairs b) fun p _ => ⟨[some (nv (places b).length), some (marksV b), none, some (encP p), none, none], by simp [wipe], by
      have := tu_tup (k + 3) [nv p.1, nv p.2] 2 2 S
      simpa [encP] using this⟩) (by rw [List.length_map]; exact len_lim hp)
  obtain ⟨y3, hf⟩ := named_loop (k + 4) S (nv (places b).length) (marksV b) (pairs b) [] none (by simp [lim]; omega)
  have hx := x_for (c := cxt prog (k + 4) S.length) (env := [some (nv (places b).length), some (marksV b), some (.ref S.length), none, none, none]) (S := S ++ [.lst []]) (src := .it (.idx (.var 1) (.lit (.int 0)))) (xs := (pairs b).map encP) (S1 := S ++ [.lst []]) (by simp [marks0, walkOf]) (by simpa using hf)
  have hjn : (pairs b).flatMap (fun p => [p.1, p.2]) = jn b := rfl
  rw [hjn] at hx
  have hlist : ∀ S', callBi S' .list [.tup ((lones b).map nv)] = some (.lst true ((lones b).map nv)) := fun S' => by simp [callBi, listOf, asSeq]
  let S2 := S ++ [Ob.lst ((jn b).map nv)]
  let e2 : Env := [some (nv (places b).length), some (marksV b), some (.ref S.length), y3, none, none]
  have hboth : evalE (cxt prog (k + 4) S.length) (.bin .add (.var 2) (.bi .list [.idx (.var 1) (.lit (.int 1))])) e2 S2 = .ok (.lst true ((jn b ++ lones b).map nv)) S2 := by
    simp [e2, S2, marks1, hlist, nv_list _ _ _ _ hsum, -List.map_append]
  have lt_all : ∀ i ∈ jn b ++ lones b, i < (places b).length := fun i hi => by
    rcases List.mem_append.mp hi with hi | hi
    · exact jn_lt h hi
    · exact List.mem_range.mp (List.mem_filter.mp hi).1
  have hc2 := ev_comp (c := cxt prog (k + 4) S.length) (own := [4]) (tg := .name 4) (src := .it (.bin .add (.var 2) (.bi .list [.idx (.var 1) (.lit (.int 1))]))) (ifs := []) (elt := .call 1 [.var 4, .lit (.int 0), .bin .sub (.var 0) (.lit (.int 1))]) (env := e2) (S := S2) (S1 := S2) (S2 := S2)
    (xs := (jn b ++ lones b).map nv) (by rw [sr_it, hboth]; simp [walkOf])
    (comp_all nv (fun _ => .bl true) (jn b ++ lones b) fun i hi => ⟨[some (nv (places b).length), some (marksV b), some (.ref S.length), y3, some (nv i), none], by simp [wipe, e2], by
      have hlt := lt_all i hi
      have := fw_int (k + 2) i 0 ((places b).length - 1) S2
      rw [show (decide ((0 : Int) ≤ (i : Int)) && decide ((i : Int) ≤ ((places b).length : Int) - 1)) = true by simp; omega] at this
      simp [QE.bin, subV, nv, this]⟩) (by rw [List.length_map, List.length_append]; exact hsum)
  have hc3 := ev_comp (c := cxt prog (k + 4) S.length) (own := [4, 5]) (tg := .tup [.name 4, .name 5]) (src := .it (.idx (.var 1) (.lit (.int 0)))) (ifs := []) (elt := .cmp .lt (.var 4) (.var 5)) (env := e2) (S := S2) (S1 := S2) (S2 := S2)
    (xs := (pairs b).map encP) (by simp [marks0, walkOf, e2])
    (comp_all encP (fun _ => .bl true) (pairs b) fun p hp => ⟨[some (nv (places b).length), some (marksV b), some (.ref S.length), y3, some (nv p.1), some (nv p.2)], by simp [wipe, e2, encP], by
      obtain ⟨h1, h2, h3, h4⟩ := (mem_pairs h).mp hp
      rw [← h4] at h3
      simp [QE.cmp, ltVal, nv, h3]⟩) (by rw [List.length_map]; exact len_lim hp)
  have hr1 := rising (k + 3) S2 (pairs b) encP (fun p q => lexLtI [(p.1 : Int), p.2] [(q.1 : Int), q.2]) (fun _ => rfl) lt_P (len_lim hp)
  rw [adj_sorted ((pairs_sorted h).imp fun {p q} hpq => by
    simp only [lexLtI]
    rw [if_neg (by omega)]
    simpa using hpq)] at hr1
  have hr2 := risI (k + 3) S2 ((lones b).map fun n : Nat => (n : Int)) (by rw [List.length_map]; exact len_lim (by omega))
  rw [← ints_nv, adj_sorted (by
    rw [List.pairwise_map]
    exact (List.Pairwise.filter _ List.pairwise_lt_range).imp fun hab => by simp only [ltI, decide_eq_true_eq]; omega)] at hr2
  have hc4 := ev_comp (c := cxt prog (k + 4) S.length) (own := [4]) (tg := .name 4) (src := .it (.bin .add (.var 2) (.bi .list [.idx (.var 1) (.lit (.int 1))]))) (ifs := []) (elt := .cmp .eq (.meth .count (.bin .add (.var 2) (.bi .list [.idx (.var 1) (.lit (.int 1))])) (.var 4)) (.lit (.int 1))) (env := e2) (S := S2) (S1 := S2) (S2 := S2)
    (xs := (jn b ++ lones b).map nv) (by rw [sr_it, hboth]; simp [walkOf])
    (comp_all nv (fun _ => .bl true) (jn b ++ lones b) fun i hi => ⟨[some (nv (places b).length), some (marksV b), some (.ref S.length), y3, some (nv i), none], by simp [wipe, e2], by
      have hb2 : evalE (cxt prog (k + 4) S.length) (.bin .add (.var 2) (.bi .list [.idx (.var 1) (.lit (.int 1))])) [some (nv (places b).length), some (marksV b), some (.ref S.length), y3, some (nv i), none] S2 = .ok (.lst true ((jn b ++ lones b).map nv)) S2 := by
        simp [S2, marks1, hlist, nv_list _ _ _ _ hsum, -List.map_append]
      have hcount := count1 S2 i (jn b ++ lones b) (all_nodup h) hi
      rw [ev_cmp, ev_meth, hb2]
      simp only [R.bind_okS, asList, R.of_some, ev_var, ev_lit]
      simp only [R.bind_okS, nv_st, List.getElem?_cons_succ, List.getElem?_cons_zero, hcount, R.of_some]
      simp [QE.cmp, eqVal, res, Val.chk, Val.eqv]⟩) (by rw [List.length_map, List.length_append]; exact hsum)
  have allT : ∀ (S' : Sto) (α : Type) (l : List α), callBi S' .all [.lst false (l.map fun _ => Val.bl true)] = some (.bl true) := fun S' α l => by
    simp only [callBi, boolsV, asList]
    rw [bools_map (fun _ => true) l]
    simp [List.all_map]
  simp only [set_bl] at hc1 hc2 hc3 hc4
  rw [hjn] at hf
  have hA : ∀ S', QE.callBi S' .all [.lst false ((pairs b).map fun _ => Val.bl true)] = some (.bl true) := fun S' => allT S' _ (pairs b)
  have hB : ∀ S', QE.callBi S' .all [.lst false ((jn b ++ lones b).map fun _ => Val.bl true)] = some (.bl true) := fun S' => allT S' _ (jn b ++ lones b)
  suffices hrun : execSs (cxt prog (k + 4) S.length) d_fits_marks.body [some (nv (places b).length), some (marksV b), none, none, none, none] S = .ok (.rt (.bl true), e2) S2 from
    (congrArg (finish S.length) hrun).trans (by simp [finish, S2, freeze, freeze1, Val.low])
  refine ss_step (env' := [some (nv (places b).length), some (marksV b), none, none, none, none]) (S' := S) (by simp [f0, f1, f2, marks0, marks1]) ?_
  refine ss_step (env' := [some (nv (places b).length), some (marksV b), none, none, none, none]) (S' := S) (by simp [hc1, hA]) ?_
  refine ss_step (env' := [some (nv (places b).length), some (marksV b), some (.ref S.length), none, none, none]) (S' := S ++ [.lst []]) (by simp [newCell, lim]) ?_
  refine ss_step (env' := e2) (S' := S2) hx ?_
  refine ss_step (env' := e2) (S' := S2) (by simp [hc2, hB, -List.map_append]) ?_
  refine ss_step (env' := e2) (S' := S2) (by
    have g0 : e2[1]? = some (some (marksV b)) := rfl
    simp [hc3, hA, g0, marks0, marks1, hr1, hr2]) ?_
  simp [hc4, hB, -List.map_append]
end K10

set_option linter.all false
set_option maxRecDepth 10000
namespace K10
open QE
theorem allT {α : Type} (S' : Sto) (l : List α) : callBi S' .all [.lst false (l.map fun _ => Val.bl true)] = some (.bl true) := by
  simp only [callBi, boolsV, asList]
  rw [bools_map (fun _ => true) l]
  simp [List.all_map]
/-! ### in a list -/
theorem chk_P (d : Nat) (p : Nat × Nat) : (encP p).chk (d + 1) = true := by simp [encP, nv, Val.chk, Val.chkL]
theorem chkL_P (d : Nat) : ∀ l : List (Nat × Nat), Val.chkL (d + 1) (l.map encP) = true
  | [] => rfl
  | p :: l => by simp only [List.map_cons, Val.chkL, chk_P, chkL_P d l, Bool.and_self]
theorem eqv_P (p q : Nat × Nat) : (encP p).eqv (encP q) = decide (p = q) := by
  obtain ⟨a, b⟩ := p; obtain ⟨c, d⟩ := q
  simp only [encP, nv, Val.eqv, Val.eqvL, Prod.mk.injEq, Bool.decide_and, Bool.and_true]
  congr 1 <;> (rw [Bool.eq_iff_iff]; simp; omega)
theorem any_P (p : Nat × Nat) (l : List (Nat × Nat)) : ((l.map encP).any fun y => y.eqv (encP p)) = decide (p ∈ l) := by
  induction l with
  | nil => rfl
  | cons q l ih =>
    simp only [List.map_cons, List.any_cons, ih, eqv_P, List.mem_cons, Bool.decide_or]
    congr 1
    rw [Bool.eq_iff_iff]
    simp [eq_comm]
theorem in_P (S : Sto) (p : Nat × Nat) (l : List (Nat × Nat)) : QE.cmp S .in_ (encP p) (.lst false (l.map encP)) = some (decide (p ∈ l)) := by
  simp only [QE.cmp, isIn, asList, anyEq]
  rw [chk_P 63, chkL_P 62]
  simp only [Bool.and_self, if_true, any_P]
theorem in_nv (S : Sto) (i : Nat) (l : List Nat) : QE.cmp S .in_ (nv i) (.lst false (l.map nv)) = some (decide (i ∈ l)) := by
  simp only [QE.cmp, isIn, asList, anyEq]
  rw [show (nv i).chk 64 = true from rfl, chk_nv 63]
  simp only [Bool.and_self, if_true, any_nv]
/-! ### mates -/
def mateV (b : List G) (i : Nat) : Val := if has b i then nv (mi b i) else .non
@[simp] theorem mate_st (b : List G) (i : Nat) : (mateV b i).settle = mateV b i := by unfold mateV; split <;> exact id rfl
def fnd (b : List G) (i : Nat) : List Nat := ((pairs b).filter fun p => decide (i = p.1 ∨ i = p.2)).map fun p => if p.1 = i then p.2 else p.1
theorem fnd_all {b : List G} (h : VB b) {i : Nat} (hi : i < (places b).length) : ∀ x ∈ fnd b i, has b i ∧ x = mi b i := by
  intro x hx
  obtain ⟨p, hp, rfl⟩ := List.mem_map.mp hx
  obtain ⟨hp, hc⟩ := List.mem_filter.mp hp
  obtain ⟨h1, h2, h3, h4⟩ := (mem_pairs h).mp hp
  simp at hc
  by_cases e : p.1 = i
  · subst e
    simp [h2, h4]
  · have e2 : i = p.2 := by rcases hc with hc | hc; exact absurd hc.symm e; exact hc
    subst e2
    simp only [e, if_false]
    rw [h4]
    exact ⟨has_mi h h1 h2, (mi_mi h h1 h2).symm⟩
theorem fnd_has {b : List G} (h : VB b) {i : Nat} (hi : i < (places b).length) (hm : has b i) : ∃ l, fnd b i = mi b i :: l := by
  have : fnd b i ≠ [] := by
    have := (mem_jn h hi).mpr hm
    unfold jn at this
    obtain ⟨p, hp, hc⟩ := List.mem_flatMap.mp this
    intro z
    have hx : (if p.1 = i then p.2 else p.1) ∈ fnd b i := List.mem_map.mpr ⟨p, List.mem_filter.mpr ⟨hp, by simpa using hc⟩, rfl⟩
    rw [z] at hx
    cases hx
  cases hf : fnd b i with
  | nil => exact absurd hf this
  | cons x l => exact ⟨l, by rw [(fnd_all h hi x (by rw [hf]; simp)).2]⟩
theorem fnd_no {b : List G} (h : VB b) {i : Nat} (hi : i < (places b).length) (hm : ¬ has b i) : fnd b i = [] := by
  cases hf : fnd b i with
  | nil => rfl
  | cons x l => exact absurd (fnd_all h hi x (by rw [hf]; simp)).1 hm
theorem eq_nv (S : Sto) (a c : Nat) : QE.cmp S .eq (nv a) (nv c) = some (decide (a = c)) := by
  simp only [QE.cmp, eqVal, res, nv]
  simp [Val.chk, Val.eqv]
  rw [Bool.eq_iff_iff]
  simp
  omega
theorem in_two (S : Sto) (i a c : Nat) : QE.cmp S .in_ (nv i) (.tup [nv a, nv c]) = some (decide (i = a ∨ i = c)) := by
  simp only [QE.cmp, isIn, nv, hasFlat]
  simp [Val.flat, Val.eqv]
  rw [Bool.eq_iff_iff]
  simp
  omega
theorem ne_nil (S : Sto) (l : List Nat) : QE.cmp S .ne (.lst false (l.map nv)) (.lst true []) = some (decide (l ≠ [])) := by
  simp only [QE.cmp, eqVal, res]
  have h1 : (Val.lst false (l.map nv)).chk 64 = true := by simp only [Val.chk]; exact chk_nv 63 l
  simp only [h1]
  cases l <;> simp [Val.chk, Val.chkL, Val.eqv, Val.eqvL, nt]
theorem ma (k : Nat) (S : Sto) {b : List G} (h : VB b) (i : Nat) (hi : i < (places b).length) : callFn prog (k + 6) 21 [encB b, nv i] S = .ok (mateV b i) S := by
  rw [run_fn (d := d_mate_of) rfl rfl]
  have hp := pairs_len h
  have hc := ev_comp (c := cxt prog (k + 5) S.length) (own := [3, 4]) (tg := .tup [.name 3, .name 4]) (src := .it (.call 9 [.var 0])) (ifs := [.cmp .in_ (.var 1) (.tup [.var 3, .var 4])]) (elt := .ite (.cmp .eq (.var 3) (.var 1)) (.var 4) (.var 3)) (env := [some (encB b), some (nv i), none, none, none]) (S := S) (S1 := S) (S2 := S)
    (xs := (pairs b).map encP) (by simp [pr (k + 3) S h, walkOf])
    (comp_run encP (fun p => decide (i = p.1 ∨ i = p.2)) (fun p => nv (if p.1 = i then p.2 else p.1)) (pairs b) fun p hp => ⟨[some (encB b), some (nv i), none, some (nv p.1), some (nv p.2)], by simp [wipe, encP], by
      simp [in_two, lim], fun _ => by
      by_cases e : p.1 = i <;> simp [eq_nv, e]⟩)
    (by rw [List.length_map]; exact Nat.le_trans (List.length_filter_le _ _) (len_lim hp))
  have hfd : ((pairs b).filter fun p => decide (i = p.1 ∨ i = p.2)).map (fun p => (nv (if p.1 = i then p.2 else p.1)).settle) = (fnd b i).map nv := by
    unfold fnd
    rw [List.map_map]
    rfl
  rw [hfd] at hc
  by_cases hm : has b i
  · obtain ⟨l, hl⟩ := fnd_has h hi hm
    rw [hl] at hc
    have hne := ne_nil S (mi b i :: l)
    simp [d_mate_of, nbV k S h, nl (k + 2) S h i hi, hc, mateV, hm, lim]
    rw [List.map_cons] at hne
    simp [hne, item, asList, itemOf, atI, ixN]
  · rw [fnd_no h hi hm] at hc
    have hne := ne_nil S []
    simp at hne
    simp [d_mate_of, nbV k S h, nl (k + 2) S h i hi, hc, mateV, hm, lim, hne]
end K10

set_option linter.all false
set_option maxRecDepth 10000
namespace K10
open QE
/-! ### the cup -/
def cup (a c : Int) : Ob := .lst [.int a, .int c]
abbrev st (a c : Int) (R : Sto) : Sto := Ob.tbl 278 lq__law_seven :: Ob.tbl 283 lq_law :: cup a c :: R
theorem fmod_rng (x m : Int) (h : 0 < m) : 0 ≤ x.fmod m ∧ x.fmod m < m := ⟨Int.fmod_nonneg_of_pos x h, Int.fmod_lt_of_pos x h⟩
theorem small_of {x : Int} (h1 : 0 ≤ x) (h2 : x < 2 ^ 64) : small x = true := by
  unfold small
  simp only [Bool.and_eq_true, decide_eq_true_eq]
  omega
theorem roll (k : Nat) (R : Sto) (a c m : Int) (ha : 0 ≤ a) (hm : 0 < m) (hm2 : m < 1000) : ∃ r a' c' : Int, 0 ≤ r ∧ r < m ∧ 0 ≤ a' ∧ callFn prog (k + 1) 30 [.ref 2, .int m] (st a c R) = .ok (.int r) (st a' c' R) := by
  have hmod : ∀ (x : Int) (S : Sto), QE.bin S .mod (.int x) (.int m) = some (.int (x.fmod m)) := fun x S => by
    simp only [QE.bin, modV]
    rw [if_pos (by omega)]
  have hdiv : ∀ (x : Int) (S : Sto), QE.bin S .fdiv (.int x) (.int m) = some (.int (x.fdiv m)) := fun x S => by
    simp only [QE.bin, fdivV]
    rw [if_pos (by omega)]
  have hit0 : ∀ x y : Int, item (st x y R) (.ref 2) (.int 0) = some (.int x) := fun x y => by simp [cup, item, asList, itemOf, atI, ixN]
  have hit1 : ∀ x y : Int, item (st x y R) (.ref 2) (.int 1) = some (.int y) := fun x y => by simp [cup, item, asList, itemOf, atI, ixN]
  have hset0 : ∀ (n : Nat) (x y z : Int), QE.setIx n (st x y R) (.ref 2) (.int 0) (.int z) = .ok () (st z y R) := fun n x y z => by simp [cup, QE.setIx, ixN, mayPut, Val.low]
  have hset1 : ∀ (n : Nat) (x y z : Int), QE.setIx n (st x y R) (.ref 2) (.int 1) (.int z) = .ok () (st x z R) := fun n x y z => by simp [cup, QE.setIx, ixN, mayPut, Val.low]
  have hlen : ∀ x y : Int, (st x y R).length = (st a c R).length := fun x y => rfl
  by_cases h : 0 < a
  · refine ⟨a.fmod m, a.fdiv m, c, (fmod_rng a m hm).1, (fmod_rng a m hm).2, Int.fdiv_nonneg ha (by omega), ?_⟩
    rw [run_fn (d := d__law_roll) rfl rfl]
    simp [d__law_roll, hit0, hset0, hmod, hdiv, QE.cmp, gtVal, h, callBi, finish]
  · let c1 : Int := (c * 31033 + 8017).fmod 2147483579
    have hc1 := fmod_rng (c * 31033 + 8017) 2147483579 (by omega)
    let d1 : Int := (c1 * (c1 + 307)).fmod 2147483059
    refine ⟨(d1.fdiv 823).fmod m, a, c1, (fmod_rng _ m hm).1, (fmod_rng _ m hm).2, ha, ?_⟩
    rw [run_fn (d := d__law_roll) rfl rfl]
    have sm1 : small 31033 = true := by decide
    have sm3 : small c1 = true := small_of hc1.1 (by have := hc1.2; show c1 < 2 ^ 64; omega)
    have e1 : ∀ S : Sto, QE.bin S .mul (.int c) (.int 31033) = some (.int (c * 31033)) := fun S => by simp [QE.bin, mulV, sm1]
    have e2 : ∀ S : Sto, QE.bin S .add (.int (c * 31033)) (.int 8017) = some (.int (c * 31033 + 8017)) := fun S => rfl
    have e3 : ∀ S : Sto, QE.bin S .mod (.int (c * 31033 + 8017)) (.int 2147483579) = some (.int c1) := fun S => by simp [QE.bin, modV, c1]
    have e4 : ∀ S : Sto, QE.bin S .add (.int c1) (.int 307) = some (.int (c1 + 307)) := fun S => rfl
    have e5 : ∀ S : Sto, QE.bin S .mul (.int c1) (.int (c1 + 307)) = some (.int (c1 * (c1 + 307))) := fun S => by simp [QE.bin, mulV, sm3]
    have e6 : ∀ S : Sto, QE.bin S .mod (.int (c1 * (c1 + 307))) (.int 2147483059) = some (.int d1) := fun S => by simp [QE.bin, modV, d1]
    have e7 : ∀ S : Sto, QE.bin S .fdiv (.int d1) (.int 823) = some (.int (d1.fdiv 823)) := fun S => by simp [QE.bin, fdivV]
    have hint : ∀ (S : Sto) (x : Int), callBi S .int [.int x] = some (.int x) := fun S x => rfl
    simp [d__law_roll, hit0, hit1, hset1, e1, e2, e3, e4, e5, e6, e7, hmod, hint, QE.cmp, gtVal, h, finish]
/-! ### a book is drawn -/
theorem roll_comp (k n : Nat) (R : Sto) (x1 x2 x3 x4 x5 x6 : Option Val) : ∀ (l : List Nat) (a c : Int), 0 ≤ a → ∃ (l' : List Nat) (a' c' : Int), 0 ≤ a' ∧ l'.Sublist l ∧
    compLoop (.name 7) (evalAnd (cxt prog (k + 1) n) [.cmp .gt (.call 30 [.var 0, .lit (.int 4)]) (.lit (.int 0))]) (evalE (cxt prog (k + 1) n) (.var 7)) [some (.ref 2), x1, x2, x3, x4, x5, x6, none] (l.map nv) (st a c R) = .ok (l'.map nv) (st a' c' R)
  | [], a, c, ha => ⟨[], a, c, ha, .slnil, rfl⟩
  | p :: l, a, c, ha => by
    obtain ⟨r, a1, c1, h1, h2, h3, h4⟩ := roll k R a c 4 ha (by omega) (by omega)
    obtain ⟨l', a', c', g1, g2, g3⟩ := roll_comp k n R x1 x2 x3 x4 x5 x6 l a1 c1 h3
    have ht : evalAnd (cxt prog (k + 1) n) [.cmp .gt (.call 30 [.var 0, .lit (.int 4)]) (.lit (.int 0))] [some (.ref 2), x1, x2, x3, x4, x5, x6, some (nv p)] (st a c R) = .ok (decide (0 < r)) (st a1 c1 R) := by
      by_cases hr : 0 < r <;> simp [h4, QE.cmp, gtVal, hr]
    have hbnd : bindT (.name 7) (nv p) [some (.ref 2), x1, x2, x3, x4, x5, x6, none] = some [some (.ref 2), x1, x2, x3, x4, x5, x6, some (nv p)] := by simp
    by_cases hr : 0 < r
    · refine ⟨p :: l', a', c', g1, g2.cons₂ p, ?_⟩
      simp only [List.map_cons, compLoop, hbnd, ht, QE.R.bind_okS, hr, decide_true, if_true, ev_var, List.getElem?_cons_succ, List.getElem?_cons_zero, g3, nv_st]
    · refine ⟨l', a', c', g1, g2.cons p, ?_⟩
      simp only [List.map_cons, compLoop, hbnd, ht, QE.R.bind_okS, hr, decide_false, Bool.false_eq_true, if_false, g3]
theorem rng2_ok (S : Sto) (n : Nat) (h : n ≤ 100) : rangeOf S 1 (n + 1 : Int) = .ok (((List.range n).map (· + 1)).map nv) S := by
  unfold rangeOf
  rw [if_pos (by omega)]
  rw [show ((n : Int) + 1 - 1).toNat = n by omega, rangeV_map, List.map_map]
  congr 1
  apply List.map_congr_left
  intro i _
  simp only [Function.comp_apply, nv, Val.int.injEq]
  push_cast
  omega
theorem rng1_sorted (n : Nat) : ((List.range n).map (· + 1)).Pairwise (· < ·) := by
  rw [List.pairwise_map]
  exact List.pairwise_lt_range.imp fun h => by omega
theorem book_loop (k n : Nat) (R : Sto) : ∀ (m : Nat) (ts : List Val) (gs : List G) (a c : Int) (x4 x5 x6 : Option Val), ts.length = m → gs.length + m ≤ 5 → (∀ g ∈ gs, VG g) → 0 ≤ a → ∃ (hs : List G) (a' c' : Int) (y4 y5 y6 : Option Val), hs.length = m ∧ (∀ g ∈ hs, VG g) ∧ 0 ≤ a' ∧
    forLoop (.name 4) (execSs (cxt prog (k + 1) n) [.asg (.name 5) (.bin .add (.lit (.int 1)) (.call 30 [.var 0, .var 2])), .asg (.name 6) (.bi .tuple [.comp [7] (.name 7) (.rng2 (.lit (.int 1)) (.bin .add (.bin .mul (.lit (.int 2)) (.var 5)) (.lit (.int 1)))) [.cmp .gt (.call 30 [.var 0, .lit (.int 4)]) (.lit (.int 0))] (.var 7)]),
        .asg (.name 3) (.bin .add (.var 3) (.tup [.tup [.var 5, .ite (.cmp .ne (.var 6) (.tup [])) (.var 6) (.tup [.bin .add (.lit (.int 1)) (.call 30 [.var 0, .bin .mul (.lit (.int 2)) (.var 5)])])]]))])
      ts [some (.ref 2), some (.int 4), some (.int 4), some (.tup (gs.map encG)), x4, x5, x6, none] (st a c R)
      = .ok (.nx, [some (.ref 2), some (.int 4), some (.int 4), some (.tup ((gs ++ hs).map encG)), y4, y5, y6, none]) (st a' c' R)
  | 0, ts, gs, a, c, x4, x5, x6, hts, _, _, ha => by
    cases ts with
    | nil => exact ⟨[], a, c, x4, x5, x6, rfl, by simp, ha, by simp [forLoop]⟩
    | cons _ _ => cases hts
  | m + 1, ts, gs, a, c, x4, x5, x6, hts, hm, hg, ha => by
    cases ts with
    | nil => cases hts
    | cons t ts =>
      obtain ⟨r, a1, c1, p1, p2, p3, e1⟩ := roll k R a c 4 ha (by omega) (by omega)
      let s : Nat := (r + 1).toNat
      have hs : (s : Int) = 1 + r := by simp only [s]; omega
      obtain ⟨l, a2, c2, q1, q2, e2⟩ := roll_comp k n R (some (.int 4)) (some (.int 4)) (some (.tup (gs.map encG))) (some t.settle) (some (nv s)) x6 ((List.range (2 * s)).map (· + 1)) a1 c1 p3
      have hlen : l.length ≤ 2 * s := by have := q2.length_le; simpa using this
      have hsorted : l.Pairwise (· < ·) := (rng1_sorted (2 * s)).sublist q2
      have hrng : ∀ p ∈ l, 1 ≤ p ∧ p ≤ 2 * s := fun p hp => by
        have := q2.subset hp
        obtain ⟨i, hi, rfl⟩ := List.mem_map.mp this
        have := List.mem_range.mp hi
        omega
      have b1 : ∀ S : Sto, QE.bin S .add (.int 1) (.int r) = some (nv s) := fun S => by simp only [QE.bin, addV, nv, hs]
      have b2 : ∀ S : Sto, QE.bin S .mul (.int 2) (nv s) = some (.int (2 * s)) := fun S => by simp [QE.bin, mulV, nv, sm2]
      have b3 : ∀ S : Sto, QE.bin S .add (.int (2 * s)) (.int 1) = some (.int (2 * s + 1)) := fun S => rfl
      have hsrc : evalSrc (cxt prog (k + 1) n) (.rng2 (.lit (.int 1)) (.bin .add (.bin .mul (.lit (.int 2)) (.var 5)) (.lit (.int 1)))) [some (.ref 2), some (.int 4), some (.int 4), some (.tup (gs.map encG)), some t.settle, some (nv s), x6, none] (st a1 c1 R) = .ok (((List.range (2 * s)).map (· + 1)).map nv) (st a1 c1 R) := by
        simp only [sr_2, ev_lit, QE.R.bind_okS, int_ok, ev_bin, ev_var, List.getElem?_cons_succ, List.getElem?_cons_zero, b2, b3, QE.R.of_some]
        have := rng2_ok (st a1 c1 R) (2 * s) (by omega)
        push_cast at this
        exact this
      have hc := ev_comp (c := cxt prog (k + 1) n) (own := [7]) hsrc e2 (by rw [List.length_map]; simp only [lim]; omega)
      have htup : ∀ S : Sto, callBi S .tuple [.lst false (l.map nv)] = some (.tup (l.map nv)) := fun S => by simp [callBi, tupleOf, asSeq, asList]
      have hcat : ∀ (S : Sto) (g : G), QE.bin S .add (.tup (gs.map encG)) (.tup [encG g]) = some (.tup ((gs ++ [g]).map encG)) := fun S g => by
        have : gs.length + 1 ≤ lim := by simp only [lim]; omega
        simp [QE.bin, addV, this]
      by_cases hne : l = []
      · subst hne
        have hcmp : ∀ S : Sto, QE.cmp S .ne (.tup []) (.tup []) = some false := fun S => by simp [QE.cmp, eqVal, res, Val.chk, Val.chkL, Val.eqv, Val.eqvL, nt]
        obtain ⟨r3, a3, c3, w1, w2, w3, e3⟩ := roll k R a2 c2 (2 * s) q1 (by omega) (by omega)
        let p : Nat := (r3 + 1).toNat
        have hp : (p : Int) = 1 + r3 := by simp only [p]; omega
        have b4 : ∀ S : Sto, QE.bin S .add (.int 1) (.int r3) = some (nv p) := fun S => by simp only [QE.bin, addV, nv, hp]
        have vg : VG (s, [p]) := ⟨by show 1 ≤ s; omega, by show s ≤ 8; omega, by simp, by simp, fun x hx => by simp at hx; subst hx; show 1 ≤ p ∧ p ≤ 2 * s; omega⟩
        obtain ⟨hs', a', c', y4, y5, y6, z1, z2, z3, z4⟩ := book_loop k n R m ts (gs ++ [(s, [p])]) a3 c3 (some t.settle) (some (nv s)) (some (.tup [])) (by simpa using hts) (by simp; omega) (by
          intro g hgm
          rcases List.mem_append.mp hgm with h | h
          · exact hg g h
          · rw [List.mem_singleton.mp h]; exact vg) w3
        refine ⟨(s, [p]) :: hs', a', c', y4, y5, y6, by simp [z1], by
          intro g hgm
          rcases List.mem_cons.mp hgm with h | h
          · rw [h]; exact vg
          · exact z2 g h, z3, ?_⟩
        have hcat' := fun S => hcat S (s, [p])
        simp only [encG, List.map_cons, List.map_nil] at hcat'
        rw [show gs ++ (s, [p]) :: hs' = gs ++ [(s, [p])] ++ hs' by simp, ← z4]
        simp only [List.map_nil] at hc htup
        simp [forLoop, e1, b1, hc, htup, hcmp, b2, e3, b4, lim]
        rw [hcat']
        simp only [QE.R.of_some, QE.R.bind_okS, set_tup, List.map_append, List.map_cons, List.map_nil, List.append_assoc]
        try rfl
        try simp [encG]
      · have hcmp : ∀ S : Sto, QE.cmp S .ne (.tup (l.map nv)) (.tup []) = some true := fun S => by
          have h1 : (Val.tup (l.map nv)).chk 64 = true := by simp only [Val.chk]; exact chk_nv 63 l
          simp only [QE.cmp, eqVal, res, h1]
          cases l with
          | nil => exact absurd rfl hne
          | cons x l => simp [Val.chk, Val.chkL, Val.eqv, Val.eqvL, nt]
        have vg : VG (s, l) := ⟨by show 1 ≤ s; omega, by show s ≤ 8; omega, hne, hsorted, hrng⟩
        obtain ⟨hs', a', c', y4, y5, y6, z1, z2, z3, z4⟩ := book_loop k n R m ts (gs ++ [(s, l)]) a2 c2 (some t.settle) (some (nv s)) (some (.tup (l.map nv))) (by simpa using hts) (by simp; omega) (by
          intro g hgm
          rcases List.mem_append.mp hgm with h | h
          · exact hg g h
          · rw [List.mem_singleton.mp h]; exact vg) q1
        refine ⟨(s, l) :: hs', a', c', y4, y5, y6, by simp [z1], by
          intro g hgm
          rcases List.mem_cons.mp hgm with h | h
          · rw [h]; exact vg
          · exact z2 g h, z3, ?_⟩
        have hcat' := fun S => hcat S (s, l)
        simp only [encG] at hcat'
        rw [show gs ++ (s, l) :: hs' = gs ++ [(s, l)] ++ hs' by simp, ← z4]
        simp [forLoop, e1, b1, hc, htup, hcmp, lim]
        rw [hcat']
        simp only [QE.R.of_some, QE.R.bind_okS, set_tup, List.map_append, List.map_cons, List.map_nil, List.append_assoc]
        try rfl
        try simp [encG]
theorem bk (k : Nat) (R : Sto) (a c : Int) (ha : 0 ≤ a) : ∃ (b : List G) (a' c' : Int), VB b ∧ 0 ≤ a' ∧ callFn prog (k + 2) 32 [.ref 2, .int 4, .int 4] (st a c R) = .ok (encB b) (st a' c' R) := by
  obtain ⟨r, a1, c1, p1, p2, p3, e1⟩ := roll k R a c 4 ha (by omega) (by omega)
  let m : Nat := (r + 1).toNat
  have hm : (m : Int) = 1 + r := by simp only [m]; omega
  obtain ⟨b, a', c', y4, y5, y6, z1, z2, z3, z4⟩ := book_loop k (st a c R).length R m ((List.range m).map nv) [] a1 c1 none none none (by simp) (by simp; omega) (by simp) p3
  refine ⟨b, a', c', ⟨by omega, by omega, z2⟩, z3, ?_⟩
  rw [run_fn (d := d__law_book) rfl rfl]
  have b1 : ∀ S : Sto, QE.bin S .add (.int 1) (.int r) = some (nv m) := fun S => by simp only [QE.bin, addV, nv, hm]
  have hx := x_for (c := cxt prog (k + 1) (st a c R).length) (env := [some (.ref 2), some (.int 4), some (.int 4), some (.tup []), none, none, none, none]) (S := st a c R) (src := .rng1 (.bin .add (.lit (.int 1)) (.call 30 [.var 0, .var 1]))) (xs := (List.range m).map nv) (S1 := st a1 c1 R) (by
    simp [e1, b1, bind_int]
    exact rng_ok _ _ (by omega)) z4
  have hlen : (st a c R).length = (st a' c' R).length := rfl
  simp only [d__law_book, xs_cons, x_asg, ev_tup, es_nil]
  simp [lim]
  simp at hx
  rw [hx]
  simp [finish, encB]
theorem cu (k : Nat) (v : Val) (ns : List Int) (hl : ns.length ≤ 63) (hv : ∀ S, callBi S .list [v.settle] = some (.lst true (ns.map .int))) : ∃ a c : Int, 0 ≤ a ∧ callFn prog (k + 1) 29 [v] sto0 = .ok (.lst true [.int a, .int c]) sto0 := by
  obtain ⟨z, hz⟩ : ∃ z, ∀ S : Sto, item S (.lst true (ns.map .int ++ [.int 0])) (.int 0) = some (.int z) := by
    cases ns with
    | nil => exact ⟨0, fun S => by simp [item, asList, itemOf, atI, ixN]⟩
    | cons z ns => exact ⟨z, fun S => by
        have hp : (0 : Int) < (ns.length : Int) + 1 + 1 := by omega
        simp [item, asList, itemOf, atI, ixN, hp]⟩
  obtain ⟨n, hn, hab⟩ : ∃ n : Int, 0 ≤ n ∧ ∀ S : Sto, callBi S .abs [.int z] = some (.int n) := ⟨if z < 0 then -z else z, by split <;> omega, fun S => rfl⟩
  have hadd : ∀ S : Sto, QE.bin S .add (.lst false (ns.map .int)) (.lst true [.int 0]) = some (.lst true (ns.map .int ++ [.int 0])) := fun S => by
    have : ns.length + 1 ≤ lim := by simp only [lim]; omega
    simp [QE.bin, addV, asList, this]
  have hadd2 : ∀ S : Sto, QE.bin S .add (.lst true (ns.map .int)) (.lst true [.int 0]) = some (.lst true (ns.map .int ++ [.int 0])) := fun S => by
    have : ns.length + 1 ≤ lim := by simp only [lim]; omega
    simp [QE.bin, addV, asList, this]
  have sm1 : small 317 = true := by decide
  have e0 : ∀ S : Sto, QE.bin S .pow (.int 10) (.int 18) = some (.int (10 ^ 18)) := fun S => by simp [QE.bin, powV]
  have e1 : ∀ S : Sto, QE.bin S .mul (.int n) (.int 317) = some (.int (n * 317)) := fun S => by simp [QE.bin, mulV, sm1]
  have e2 : ∀ S : Sto, QE.bin S .add (.int (n * 317)) (.int 4007) = some (.int (n * 317 + 4007)) := fun S => rfl
  have e3 : ∀ S : Sto, QE.bin S .mod (.int (n * 317 + 4007)) (.int 2077502471) = some (.int ((n * 317 + 4007).fmod 2077502471)) := fun S => by simp [QE.bin, modV]
  have e4 : ∀ (x : Int) (S : Sto), QE.bin S .add (.int x) (.int 227) = some (.int (x + 227)) := fun x S => rfl
  have e5 : ∀ S : Sto, QE.bin S .fdiv (.int n) (.int 107) = some (.int (n.fdiv 107)) := fun S => by simp [QE.bin, fdivV]
  have e6 : ∀ S : Sto, QE.cmp S .ge (.int n) (.int (10 ^ 18)) = some (decide ((10 : Int) ^ 18 ≤ n)) := fun S => rfl
  have hint : ∀ (S : Sto) (x : Int), callBi S .int [.int x] = some (.int x) := fun S x => rfl
  by_cases hge : (10 : Int) ^ 18 ≤ n
  · refine ⟨n.fdiv 107, (n * 317 + 4007).fmod 2077502471 + 227, Int.fdiv_nonneg hn (by omega), ?_⟩
    rw [run_fn (d := d__law_cup) rfl rfl]
    rw [decide_eq_true hge] at e6
    simp only [d__law_cup, xs_cons, x_asg, ev_bi, es_cons, ev_idx, ev_bin, ev_list, es_nil, ev_lit, ev_var]
    simp [hv, hadd2, hz, hab, e0, e1, e2, e3, e4, e5, e6, hint, lim, -Int.reducePow]
  · refine ⟨0, (n * 317 + 4007).fmod 2077502471 + 227, by omega, ?_⟩
    rw [run_fn (d := d__law_cup) rfl rfl]
    rw [decide_eq_false hge] at e6
    simp only [d__law_cup, xs_cons, x_asg, ev_bi, es_cons, ev_idx, ev_bin, ev_list, es_nil, ev_lit, ev_var]
    simp [hv, hadd2, hz, hab, e0, e1, e2, e3, e4, e5, e6, hint, lim, -Int.reducePow]
end K10

set_option linter.all false
set_option maxRecDepth 10000
namespace K10
open QE
/-! ### no books -/
def Bad (v : Val) : Prop := v.settle = v ∧ ∀ (k : Nat) (S : Sto), callFn prog (k + 4) 5 [v] S = .ok (.bl false) S
def BadG (v : Val) : Prop := v.settle = v ∧ ∀ (k : Nat) (S : Sto), callFn prog (k + 3) 4 [v] S = .ok (.bl false) S
theorem bad_not {v : Val} (hs : v.settle = v) (h : noT v = true) : Bad v := ⟨hs, fun k S => fb_not k S v h⟩
theorem bad_one {x : Val} (h : BadG x) : Bad (.tup [x]) := ⟨rfl, fun k S => (by
  have := fb k S [()] (fun _ => x) (fun _ => false) (fun _ => h.1) (fun _ _ => h.2 k S) (by simp [lim])
  simpa using this)⟩
theorem badG_not {v : Val} (hs : v.settle = v) (h : noT v = true) : BadG v := ⟨hs, fun k S => fg_not k S v h⟩
theorem badG_ints {s : Int} {is : List Int} (hl : is.length ≤ lim) (h : gOk s is = false) : BadG (.tup [.int s, .tup (is.map iv)]) := ⟨rfl, fun k S => by rw [fgI k S s is hl, h]⟩
theorem badG_nats {s : Nat} {l : List Nat} (hl : l.length ≤ lim) (h : gOk s (l.map fun n : Nat => (n : Int)) = false) : BadG (.tup [nv s, .tup (l.map nv)]) := by
  have := badG_ints (s := s) (is := l.map fun n : Nat => (n : Int)) (by simpa using hl) h
  rwa [← ints_nv] at this
theorem bad_none {b : List G} (h : VB b) : Bad (.tup (b.map encG ++ [.non])) := ⟨rfl, fun k S => (by
  have := fb k S (b.map some ++ [none]) (fun o : Option G => match o with
    | some g => encG g
    | none => .non) (fun o => o.isSome) (fun o => by cases o <;> rfl) (fun o ho => by
      cases o with
      | none => exact fg_not k S .non rfl
      | some g =>
        have : g ∈ b := by simpa using ho
        exact fgV k S (h.each g this)) (by have := h.few; simp [lim]; omega)
  simp only [List.map_append, List.map_map, List.map_cons, List.map_nil] at this
  rw [show (b.map encG ++ [Val.non]) = b.map ((fun o : Option G => match o with
    | some g => encG g
    | none => .non) ∘ some) ++ [Val.non] from rfl, this]
  simp)⟩

def bads (b : List G) : List Val := [.non, .tup [], .lst false (b.map encG), .tup (b.map encG ++ [.non]), .tup [.tup [.int 9, .tup [.int 1]]], .tup [.tup [.int 1, .tup []]], .tup [.tup [.int 1, .tup [.int 2, .int 1]]], .tup [.tup [.int 1, .tup [.int 3]]]]
theorem bad_all {b : List G} (h : VB b) : ∀ v ∈ bads b, Bad v := by
  intro v hv
  simp only [bads, List.mem_cons, List.not_mem_nil, or_false] at hv
  rcases hv with rfl | rfl | rfl | rfl | rfl | rfl | rfl | rfl
  · exact bad_not rfl rfl
  · exact ⟨rfl, fun k S => by simpa using fb k S ([] : List Unit) (fun _ => Val.non) (fun _ => true) (fun _ => rfl) (fun a ha => by cases ha) (by simp)⟩
  · exact bad_not rfl rfl
  · exact bad_none h
  · exact bad_one (badG_ints (s := 9) (is := [1]) (by simp [lim]) (by decide))
  · exact bad_one (badG_ints (s := 1) (is := []) (by simp [lim]) (by decide))
  · exact bad_one (badG_ints (s := 1) (is := [2, 1]) (by simp [lim]) (by decide))
  · exact bad_one (badG_ints (s := 1) (is := [3]) (by simp [lim]) (by decide))
/-! ### no leaves -/
def noW : Val → Bool
  | .non => true
  | .bl _ => true
  | .str _ => true
  | .tup _ => true
  | _ => false
theorem w_not (k : Nat) (v : Val) (S : Sto) (h : noW v = true) : callFn prog (k + 1) 0 [v] S = .ok (.bl false) S := by
  rw [run_fn (d := d_is_whole) rfl rfl]
  cases v <;> simp only [noW] at h <;> first | (cases h; done) | simp [d_is_whole, isTy, tyName, isNon]
theorem noW_st {v : Val} (h : noW v = true) : v.settle = v := by
  cases v <;> simp only [noW] at h <;> first | (cases h; done) | exact id rfl
theorem fw_not (k : Nat) (v a b : Val) (S : Sto) (h : noW v = true) : callFn prog (k + 2) 1 [v, a, b] S = .ok (.bl false) S := by
  rw [run_fn (d := d_fits_whole) rfl rfl]
  simp [d_fits_whole, noW_st h, w_not k v S h]
def BadL (m : Nat) (v : Val) : Prop := v.settle = v ∧ ∀ (k : Nat) (S : Sto), callFn prog (k + 2) 1 [v, .int 0, .int ((m : Int) - 1)] S = .ok (.bl false) S
def leafs (m : Nat) : List Val := [.non, .int (-1), nv m, .bl true, .str [48], .tup [.int 0]]
theorem badL_all (m : Nat) : ∀ v ∈ leafs m, BadL m v := by
  intro v hv
  simp only [leafs, List.mem_cons, List.not_mem_nil, or_false] at hv
  rcases hv with rfl | rfl | rfl | rfl | rfl | rfl
  · exact ⟨rfl, fun k S => fw_not k _ _ _ S rfl⟩
  · exact ⟨rfl, fun k S => by rw [fw_int]; simp⟩
  · exact ⟨rfl, fun k S => by
      show callFn prog (k + 2) 1 [.int m, _, _] S = _
      rw [fw_int]
      simp
      omega⟩
  · exact ⟨rfl, fun k S => fw_not k _ _ _ S rfl⟩
  · exact ⟨rfl, fun k S => fw_not k _ _ _ S rfl⟩
  · exact ⟨rfl, fun k S => fw_not k _ _ _ S rfl⟩
section
variable (k : Nat) (S : Sto)
theorem nbx {v : Val} (h : Bad v) : callFn prog (k + 5) 6 [v] S = .exc 1 [] S := by
  rw [run_fn (d := d_need_book) rfl rfl]
  simp [d_need_book, h.1, h.2]
theorem nlx {b : List G} (hb : VB b) {v : Val} (h : BadL (places b).length v) : callFn prog (k + 3) 7 [encB b, v] S = .exc 3 [] S := by
  rw [run_fn (d := d_need_leaf) rfl rfl]
  simp [d_need_leaf, pl (k + 1) S hb, callBi, lenOf, asSeq, asList, QE.bin, subV, h.1, h.2]
theorem b18 {v : Val} (h : Bad v) : callFn prog (k + 6) 18 [v] S = .exc 1 [] S := by
  rw [run_fn (d := d_leaves_many) rfl rfl]
  simp [d_leaves_many, h.1, nbx k S h]
theorem b19 {v : Val} (h : Bad v) : callFn prog (k + 6) 19 [v] S = .exc 1 [] S := by
  rw [run_fn (d := d_lost_many) rfl rfl]
  simp [d_lost_many, h.1, nbx k S h]
theorem b22 {v : Val} (h : Bad v) : callFn prog (k + 6) 22 [v] S = .exc 1 [] S := by
  rw [run_fn (d := d_marks_of) rfl rfl]
  simp [d_marks_of, h.1, nbx k S h]
theorem b24 {v : Val} (h : Bad v) : callFn prog (k + 6) 24 [v] S = .exc 1 [] S := by
  rw [run_fn (d := d_unlike_openings) rfl rfl]
  simp [d_unlike_openings, h.1, nbx k S h]
theorem b20 {v : Val} (h : Bad v) (l : Val) : callFn prog (k + 6) 20 [v, l] S = .exc 1 [] S := by
  rw [run_fn (d := d_place_of) rfl rfl]
  simp [d_place_of, h.1, nbx k S h]
theorem b21 {v : Val} (h : Bad v) (l : Val) : callFn prog (k + 6) 21 [v, l] S = .exc 1 [] S := by
  rw [run_fn (d := d_mate_of) rfl rfl]
  simp [d_mate_of, h.1, nbx k S h]
theorem b23 {v : Val} (h : Bad v) (l : Val) : callFn prog (k + 6) 23 [v, l] S = .exc 1 [] S := by
  rw [run_fn (d := d_sides_of) rfl rfl]
  simp [d_sides_of, h.1, nbx k S h]
theorem b26 {v : Val} (h : Bad v) (l : Val) : callFn prog (k + 6) 26 [v, l] S = .exc 1 [] S := by
  rw [run_fn (d := d_does_fit) rfl rfl]
  simp [d_does_fit, h.1, nbx k S h]
variable {b : List G} (hb : VB b) {l : Val} (hl : BadL (places b).length l)
include hb hl
theorem l20 : callFn prog (k + 6) 20 [encB b, l] S = .exc 3 [] S := by
  rw [run_fn (d := d_place_of) rfl rfl]
  simp [d_place_of, hl.1, nbV k S hb, nlx (k + 2) S hb hl]
theorem l21 : callFn prog (k + 6) 21 [encB b, l] S = .exc 3 [] S := by
  rw [run_fn (d := d_mate_of) rfl rfl]
  simp [d_mate_of, hl.1, nbV k S hb, nlx (k + 2) S hb hl]
theorem l23 : callFn prog (k + 6) 23 [encB b, l] S = .exc 3 [] S := by
  rw [run_fn (d := d_sides_of) rfl rfl]
  simp [d_sides_of, hl.1, nbV k S hb, nlx (k + 2) S hb hl]
end
/-! ### seven calls -/
def wR : Val := .tup [.str [114, 101, 97, 100, 105, 110, 103, 115]]
def wC : Val := .tup [.str [99, 111, 115, 116, 115]]
def wN : Val := .tup [.str [110, 117, 109, 98, 101, 114]]
def wO : Val := .tup []
theorem a18 : prog.adr[18]? = some 178 := rfl
theorem a19 : prog.adr[19]? = some 183 := rfl
theorem a20 : prog.adr[20]? = some 190 := rfl
theorem a21 : prog.adr[21]? = some 195 := rfl
theorem a22 : prog.adr[22]? = some 202 := rfl
theorem a23 : prog.adr[23]? = some 209 := rfl
theorem a24 : prog.adr[24]? = some 214 := rfl
theorem a27 : prog.adr[27]? = some 233 := rfl
theorem a28 : prog.adr[28]? = some 240 := rfl
@[simp] theorem g_ok : (prog.grd.lookup 33).map (fun t => t.1) = some wO := rfl
@[simp] theorem g_1 : ((prog.grd.lookup 33).bind fun t => (t.2[1]?).bind id) = some wR := rfl
@[simp] theorem g_2 : ((prog.grd.lookup 33).bind fun t => (t.2[2]?).bind id) = some wC := rfl
@[simp] theorem g_3 : ((prog.grd.lookup 33).bind fun t => (t.2[3]?).bind id) = some wN := rfl
@[simp] theorem wO_st : wO.settle = wO := by exact id rfl
@[simp] theorem wR_st : wR.settle = wR := by exact id rfl
@[simp] theorem wC_st : wC.settle = wC := by exact id rfl
@[simp] theorem wN_st : wN.settle = wN := by exact id rfl
section
variable (k : Nat) (S : Sto) (ht : tblAt S 0 278 lq__law_seven = true)
include ht
theorem seven_bad {v : Val} (h : Bad v) (l : Val) (hl : l.settle = l) : callFn prog (k + 8) 34 [v, l] S = .ok (.lst true [wR, wR, wR, wR, wR, wR, wR]) S := by
  rw [run_fn (d := d__law_seven) rfl rfl]
  have e1 := b18 (k + 1) S h
  have e2 := b19 (k + 1) S h
  have e3 := b22 (k + 1) S h
  have e4 := b24 (k + 1) S h
  have e5 := b20 (k + 1) S h l
  have e6 := b21 (k + 1) S h l
  have e7 := b23 (k + 1) S h l
  simp [d__law_seven, ev_compS, compLoop, walkOf, wipe, a18, a19, a20, a21, a22, a23, a24, ht, fnAt, h.1, hl, e1, e2, e3, e4, e5, e6, e7, lim, QE.bin, addV, asList]
theorem seven_leaf {b : List G} (hb : VB b) {l : Val} (h : BadL (places b).length l) : callFn prog (k + 9) 34 [encB b, l] S = .ok (.lst true [wO, wO, wO, wO, wN, wN, wN]) S := by
  rw [run_fn (d := d__law_seven) rfl rfl]
  have e1 := lm (k + 2) S hb
  have e2 := lo (k + 2) S hb
  have e3 := mk (k + 2) S hb
  have e4 := un (k + 1) S hb
  have e5 := l20 (k + 2) S hb h
  have e6 := l21 (k + 2) S hb h
  have e7 := l23 (k + 2) S hb h
  simp [d__law_seven, ev_compS, compLoop, walkOf, wipe, a18, a19, a20, a21, a22, a23, a24, ht, fnAt, h.1, e1, e2, e3, e4, e5, e6, e7, lim, QE.bin, addV, asList]
theorem seven_ok {b : List G} (hb : VB b) (i : Nat) (hi : i < (places b).length) : callFn prog (k + 9) 34 [encB b, nv i] S = .ok (.lst true [wO, wO, wO, wO, wO, wO, wO]) S := by
  rw [run_fn (d := d__law_seven) rfl rfl]
  have e1 := lm (k + 2) S hb
  have e2 := lo (k + 2) S hb
  have e3 := mk (k + 2) S hb
  have e4 := un (k + 1) S hb
  have e5 := po (k + 2) S hb i (pq_get hi)
  have e6 := ma (k + 2) S hb i hi
  have e7 := so (k + 2) S hb i (pq_get hi)
  simp [d__law_seven, ev_compS, compLoop, walkOf, wipe, a18, a19, a20, a21, a22, a23, a24, ht, fnAt, e1, e2, e3, e4, e5, e6, e7, lim, QE.bin, addV, asList]
end
/-! ### one of some -/
theorem some_of (k : Nat) (R : Sto) (a c : Int) (ha : 0 ≤ a) (xs : List Val) (h0 : 0 < xs.length) (h1 : xs.length < 1000) : ∃ (v : Val) (a' c' : Int), v ∈ xs ∧ 0 ≤ a' ∧ callFn prog (k + 2) 31 [.ref 2, .lst false xs] (st a c R) = .ok v (st a' c' R) := by
  obtain ⟨r, a', c', h2, h3, h4, h5⟩ := roll k R a c xs.length ha (by omega) (by omega)
  have hlt : r.toNat < xs.length := by omega
  refine ⟨xs[r.toNat], a', c', List.getElem_mem hlt, h4, ?_⟩
  rw [run_fn (d := d__law_some) rfl rfl]
  have hlen : ∀ S, callBi S .len [.lst false xs] = some (.int xs.length) := fun S => by simp [callBi, lenOf, asSeq, asList]
  have hit : ∀ S, item S (.lst false xs) (.int r) = some xs[r.toNat] := fun S => by
    simp only [item, asList, itemOf, atI, ixN]
    rw [if_pos h2, if_pos h3]
    simp [hlt]
  simp [d__law_some, hlen, h5, hit, finish]
end K10

set_option linter.all false
set_option maxRecDepth 10000
namespace K10
open QE
theorem x_forS (c : Ctx) (env : Env) (S : Sto) (tg : T) (src : Src) (body : List Stm) : execS c (.for_ tg src body) env S = (evalSrc c src env S).calm.bind fun xs S1 => forLoop tg (execSs c body) xs env S1 := by rw [execS]
theorem fin_b1 (b : Bool) (e : Env) (S : Sto) (o : Ob) : finish S.length (.ok (.rt (.bl b), e) (S ++ [o])) = .ok (.bl b) S := by simp [finish, freeze, freeze1, Val.low]
theorem run3 (k : Nat) (v : Val) (S : Sto) : callFn prog (k + 1) 3 [v] S = finish S.length (execSs (cxt prog k S.length) d_is_rising.body [some v, none, none] S) := run_fn (d := d_is_rising) rfl rfl
theorem len_snoc (S : Sto) (o : Ob) : (S ++ [o])[S.length]? = some o := by simp
theorem tu_non (k : Nat) (a b : Val) (S : Sto) : callFn prog (k + 1) 2 [.non, a, b] S = .ok (.bl false) S := tu_not k _ a b S rfl
theorem tu_lst (k : Nat) (f : Bool) (xs : List Val) (a b : Val) (S : Sto) : callFn prog (k + 1) 2 [.lst f xs, a, b] S = .ok (.bl false) S := tu_not k _ a b S rfl
theorem fw_non (k : Nat) (a b : Val) (S : Sto) : callFn prog (k + 2) 1 [.non, a, b] S = .ok (.bl false) S := fw_not k _ a b S rfl
theorem fw_str (k : Nat) (s : List Nat) (a b : Val) (S : Sto) : callFn prog (k + 2) 1 [.str s, a, b] S = .ok (.bl false) S := fw_not k _ a b S rfl
theorem fw_tup (k : Nat) (s : List Val) (a b : Val) (S : Sto) : callFn prog (k + 2) 1 [.tup s, a, b] S = .ok (.bl false) S := fw_not k _ a b S rfl
def goods : List Val := [.tup [.tup [], .tup []], .tup [.tup [.tup [.int 0, .int 1]], .tup [.int 2]], .tup [.tup [.tup [.int 0, .int 3], .tup [.int 1, .int 2]], .tup []], .tup [.tup [], .tup [.int 0, .int 1, .int 2, .int 3]]]
def somes1 : List Val := [.non, .lst false [.tup [], .tup []], .tup [.tup []], .tup [.tup [], .tup [], .tup []], .tup [.tup [.tup [.int 0, .int 0]], .tup []], .tup [.tup [.tup [.int 1, .int 0]], .tup []], .tup [.tup [.tup [.int 0, .int 4]], .tup []], .tup [.tup [.tup [.int (-1), .int 0]], .tup []], .tup [.tup [.tup [.int 0, .int 1], .tup [.int 0, .int 2]], .tup []], .tup [.tup [.tup [.int 0, .int 1], .tup [.int 1, .int 2]], .tup []]]
def somes2 : List Val := [.tup [.tup [.tup [.int 0, .int 1]], .tup [.int 1]], .tup [.tup [.tup [.int 2, .int 3], .tup [.int 0, .int 1]], .tup []], .tup [.tup [], .tup [.int 1, .int 0]], .tup [.tup [], .tup [.int 0, .int 0]], .tup [.tup [], .tup [.int 4]], .tup [.tup [], .lst false [.int 0]], .tup [.lst false [.tup [.int 0, .int 1]], .tup []], .tup [.tup [.tup [.int 0, .int 1, .int 2]], .tup []], .tup [.tup [.tup [.int 0, .bl true]], .tup []], .tup [.tup [.non], .tup []], .tup [.tup [], .tup [.str [48]]]]
theorem mg0 (k : Nat) (S : Sto) : callFn prog (k + 5) 11 [.int 4, .tup [.tup [], .tup []]] S = .ok (.bl true) S := by rw [run_fn (d := d_fits_marks) rfl rfl]; simp [d_fits_marks, run3, d_is_rising, ev_compS, x_forS, compLoop, forLoop, walkOf, wipe, lim, QE.bin, addV, subV, QE.cmp, ltVal, ints?, lexLtI, leVal, callBi, boolsV, bools?, asList, asSeq, listOf, item, itemOf, atI, ixN, QE.slice, cut, clip, twoOf, zipV, tu_tup, tu_non, tu_lst, fw_int, fw_bl, fw_non, fw_str, fw_tup, newCell, QE.extend, set_last, len_snoc, callMe, intsV, eqVal, res, Val.chk, Val.chkL, Val.eqv, Val.eqvL, fin_b1, List.count_cons]
theorem mg1 (k : Nat) (S : Sto) : callFn prog (k + 5) 11 [.int 4, .tup [.tup [.tup [.int 0, .int 1]], .tup [.int 2]]] S = .ok (.bl true) S := by rw [run_fn (d := d_fits_marks) rfl rfl]; simp [d_fits_marks, run3, d_is_rising, ev_compS, x_forS, compLoop, forLoop, walkOf, wipe, lim, QE.bin, addV, subV, QE.cmp, ltVal, ints?, lexLtI, leVal, callBi, boolsV, bools?, asList, asSeq, listOf, item, itemOf, atI, ixN, QE.slice, cut, clip, twoOf, zipV, tu_tup, tu_non, tu_lst, fw_int, fw_bl, fw_non, fw_str, fw_tup, newCell, QE.extend, set_last, len_snoc, callMe, intsV, eqVal, res, Val.chk, Val.chkL, Val.eqv, Val.eqvL, fin_b1, List.count_cons]
theorem mg2 (k : Nat) (S : Sto) : callFn prog (k + 5) 11 [.int 4, .tup [.tup [.tup [.int 0, .int 3], .tup [.int 1, .int 2]], .tup []]] S = .ok (.bl true) S := by rw [run_fn (d := d_fits_marks) rfl rfl]; simp [d_fits_marks, run3, d_is_rising, ev_compS, x_forS, compLoop, forLoop, walkOf, wipe, lim, QE.bin, addV, subV, QE.cmp, ltVal, ints?, lexLtI, leVal, callBi, boolsV, bools?, asList, asSeq, listOf, item, itemOf, atI, ixN, QE.slice, cut, clip, twoOf, zipV, tu_tup, tu_non, tu_lst, fw_int, fw_bl, fw_non, fw_str, fw_tup, newCell, QE.extend, set_last, len_snoc, callMe, intsV, eqVal, res, Val.chk, Val.chkL, Val.eqv, Val.eqvL, fin_b1, List.count_cons]
theorem mg3 (k : Nat) (S : Sto) : callFn prog (k + 5) 11 [.int 4, .tup [.tup [], .tup [.int 0, .int 1, .int 2, .int 3]]] S = .ok (.bl true) S := by rw [run_fn (d := d_fits_marks) rfl rfl]; simp [d_fits_marks, run3, d_is_rising, ev_compS, x_forS, compLoop, forLoop, walkOf, wipe, lim, QE.bin, addV, subV, QE.cmp, ltVal, ints?, lexLtI, leVal, callBi, boolsV, bools?, asList, asSeq, listOf, item, itemOf, atI, ixN, QE.slice, cut, clip, twoOf, zipV, tu_tup, tu_non, tu_lst, fw_int, fw_bl, fw_non, fw_str, fw_tup, newCell, QE.extend, set_last, len_snoc, callMe, intsV, eqVal, res, Val.chk, Val.chkL, Val.eqv, Val.eqvL, fin_b1, List.count_cons]
theorem ms0 (k : Nat) (S : Sto) : callFn prog (k + 5) 11 [.int 4, .non] S = .ok (.bl false) S := by rw [run_fn (d := d_fits_marks) rfl rfl]; simp [d_fits_marks, run3, d_is_rising, ev_compS, x_forS, compLoop, forLoop, walkOf, wipe, lim, QE.bin, addV, subV, QE.cmp, ltVal, ints?, lexLtI, leVal, callBi, boolsV, bools?, asList, asSeq, listOf, item, itemOf, atI, ixN, QE.slice, cut, clip, twoOf, zipV, tu_tup, tu_non, tu_lst, fw_int, fw_bl, fw_non, fw_str, fw_tup, newCell, QE.extend, set_last, len_snoc, callMe, intsV, eqVal, res, Val.chk, Val.chkL, Val.eqv, Val.eqvL, fin_b1, List.count_cons]
theorem ms1 (k : Nat) (S : Sto) : callFn prog (k + 5) 11 [.int 4, .lst false [.tup [], .tup []]] S = .ok (.bl false) S := by rw [run_fn (d := d_fits_marks) rfl rfl]; simp [d_fits_marks, run3, d_is_rising, ev_compS, x_forS, compLoop, forLoop, walkOf, wipe, lim, QE.bin, addV, subV, QE.cmp, ltVal, ints?, lexLtI, leVal, callBi, boolsV, bools?, asList, asSeq, listOf, item, itemOf, atI, ixN, QE.slice, cut, clip, twoOf, zipV, tu_tup, tu_non, tu_lst, fw_int, fw_bl, fw_non, fw_str, fw_tup, newCell, QE.extend, set_last, len_snoc, callMe, intsV, eqVal, res, Val.chk, Val.chkL, Val.eqv, Val.eqvL, fin_b1, List.count_cons]
theorem ms2 (k : Nat) (S : Sto) : callFn prog (k + 5) 11 [.int 4, .tup [.tup []]] S = .ok (.bl false) S := by rw [run_fn (d := d_fits_marks) rfl rfl]; simp [d_fits_marks, run3, d_is_rising, ev_compS, x_forS, compLoop, forLoop, walkOf, wipe, lim, QE.bin, addV, subV, QE.cmp, ltVal, ints?, lexLtI, leVal, callBi, boolsV, bools?, asList, asSeq, listOf, item, itemOf, atI, ixN, QE.slice, cut, clip, twoOf, zipV, tu_tup, tu_non, tu_lst, fw_int, fw_bl, fw_non, fw_str, fw_tup, newCell, QE.extend, set_last, len_snoc, callMe, intsV, eqVal, res, Val.chk, Val.chkL, Val.eqv, Val.eqvL, fin_b1, List.count_cons]
theorem ms3 (k : Nat) (S : Sto) : callFn prog (k + 5) 11 [.int 4, .tup [.tup [], .tup [], .tup []]] S = .ok (.bl false) S := by rw [run_fn (d := d_fits_marks) rfl rfl]; simp [d_fits_marks, run3, d_is_rising, ev_compS, x_forS, compLoop, forLoop, walkOf, wipe, lim, QE.bin, addV, subV, QE.cmp, ltVal, ints?, lexLtI, leVal, callBi, boolsV, bools?, asList, asSeq, listOf, item, itemOf, atI, ixN, QE.slice, cut, clip, twoOf, zipV, tu_tup, tu_non, tu_lst, fw_int, fw_bl, fw_non, fw_str, fw_tup, newCell, QE.extend, set_last, len_snoc, callMe, intsV, eqVal, res, Val.chk, Val.chkL, Val.eqv, Val.eqvL, fin_b1, List.count_cons]
theorem ms4 (k : Nat) (S : Sto) : callFn prog (k + 5) 11 [.int 4, .tup [.tup [.tup [.int 0, .int 0]], .tup []]] S = .ok (.bl false) S := by rw [run_fn (d := d_fits_marks) rfl rfl]; simp [d_fits_marks, run3, d_is_rising, ev_compS, x_forS, compLoop, forLoop, walkOf, wipe, lim, QE.bin, addV, subV, QE.cmp, ltVal, ints?, lexLtI, leVal, callBi, boolsV, bools?, asList, asSeq, listOf, item, itemOf, atI, ixN, QE.slice, cut, clip, twoOf, zipV, tu_tup, tu_non, tu_lst, fw_int, fw_bl, fw_non, fw_str, fw_tup, newCell, QE.extend, set_last, len_snoc, callMe, intsV, eqVal, res, Val.chk, Val.chkL, Val.eqv, Val.eqvL, fin_b1, List.count_cons]
theorem ms5 (k : Nat) (S : Sto) : callFn prog (k + 5) 11 [.int 4, .tup [.tup [.tup [.int 1, .int 0]], .tup []]] S = .ok (.bl false) S := by rw [run_fn (d := d_fits_marks) rfl rfl]; simp [d_fits_marks, run3, d_is_rising, ev_compS, x_forS, compLoop, forLoop, walkOf, wipe, lim, QE.bin, addV, subV, QE.cmp, ltVal, ints?, lexLtI, leVal, callBi, boolsV, bools?, asList, asSeq, listOf, item, itemOf, atI, ixN, QE.slice, cut, clip, twoOf, zipV, tu_tup, tu_non, tu_lst, fw_int, fw_bl, fw_non, fw_str, fw_tup, newCell, QE.extend, set_last, len_snoc, callMe, intsV, eqVal, res, Val.chk, Val.chkL, Val.eqv, Val.eqvL, fin_b1, List.count_cons]
theorem ms6 (k : Nat) (S : Sto) : callFn prog (k + 5) 11 [.int 4, .tup [.tup [.tup [.int 0, .int 4]], .tup []]] S = .ok (.bl false) S := by rw [run_fn (d := d_fits_marks) rfl rfl]; simp [d_fits_marks, run3, d_is_rising, ev_compS, x_forS, compLoop, forLoop, walkOf, wipe, lim, QE.bin, addV, subV, QE.cmp, ltVal, ints?, lexLtI, leVal, callBi, boolsV, bools?, asList, asSeq, listOf, item, itemOf, atI, ixN, QE.slice, cut, clip, twoOf, zipV, tu_tup, tu_non, tu_lst, fw_int, fw_bl, fw_non, fw_str, fw_tup, newCell, QE.extend, set_last, len_snoc, callMe, intsV, eqVal, res, Val.chk, Val.chkL, Val.eqv, Val.eqvL, fin_b1, List.count_cons]
theorem ms7 (k : Nat) (S : Sto) : callFn prog (k + 5) 11 [.int 4, .tup [.tup [.tup [.int (-1), .int 0]], .tup []]] S = .ok (.bl false) S := by rw [run_fn (d := d_fits_marks) rfl rfl]; simp [d_fits_marks, run3, d_is_rising, ev_compS, x_forS, compLoop, forLoop, walkOf, wipe, lim, QE.bin, addV, subV, QE.cmp, ltVal, ints?, lexLtI, leVal, callBi, boolsV, bools?, asList, asSeq, listOf, item, itemOf, atI, ixN, QE.slice, cut, clip, twoOf, zipV, tu_tup, tu_non, tu_lst, fw_int, fw_bl, fw_non, fw_str, fw_tup, newCell, QE.extend, set_last, len_snoc, callMe, intsV, eqVal, res, Val.chk, Val.chkL, Val.eqv, Val.eqvL, fin_b1, List.count_cons]
theorem ms8 (k : Nat) (S : Sto) : callFn prog (k + 5) 11 [.int 4, .tup [.tup [.tup [.int 0, .int 1], .tup [.int 0, .int 2]], .tup []]] S = .ok (.bl false) S := by rw [run_fn (d := d_fits_marks) rfl rfl]; simp [d_fits_marks, run3, d_is_rising, ev_compS, x_forS, compLoop, forLoop, walkOf, wipe, lim, QE.bin, addV, subV, QE.cmp, ltVal, ints?, lexLtI, leVal, callBi, boolsV, bools?, asList, asSeq, listOf, item, itemOf, atI, ixN, QE.slice, cut, clip, twoOf, zipV, tu_tup, tu_non, tu_lst, fw_int, fw_bl, fw_non, fw_str, fw_tup, newCell, QE.extend, set_last, len_snoc, callMe, intsV, eqVal, res, Val.chk, Val.chkL, Val.eqv, Val.eqvL, fin_b1, List.count_cons]
theorem ms9 (k : Nat) (S : Sto) : callFn prog (k + 5) 11 [.int 4, .tup [.tup [.tup [.int 0, .int 1], .tup [.int 1, .int 2]], .tup []]] S = .ok (.bl false) S := by rw [run_fn (d := d_fits_marks) rfl rfl]; simp [d_fits_marks, run3, d_is_rising, ev_compS, x_forS, compLoop, forLoop, walkOf, wipe, lim, QE.bin, addV, subV, QE.cmp, ltVal, ints?, lexLtI, leVal, callBi, boolsV, bools?, asList, asSeq, listOf, item, itemOf, atI, ixN, QE.slice, cut, clip, twoOf, zipV, tu_tup, tu_non, tu_lst, fw_int, fw_bl, fw_non, fw_str, fw_tup, newCell, QE.extend, set_last, len_snoc, callMe, intsV, eqVal, res, Val.chk, Val.chkL, Val.eqv, Val.eqvL, fin_b1, List.count_cons]
theorem ms10 (k : Nat) (S : Sto) : callFn prog (k + 5) 11 [.int 4, .tup [.tup [.tup [.int 0, .int 1]], .tup [.int 1]]] S = .ok (.bl false) S := by rw [run_fn (d := d_fits_marks) rfl rfl]; simp [d_fits_marks, run3, d_is_rising, ev_compS, x_forS, compLoop, forLoop, walkOf, wipe, lim, QE.bin, addV, subV, QE.cmp, ltVal, ints?, lexLtI, leVal, callBi, boolsV, bools?, asList, asSeq, listOf, item, itemOf, atI, ixN, QE.slice, cut, clip, twoOf, zipV, tu_tup, tu_non, tu_lst, fw_int, fw_bl, fw_non, fw_str, fw_tup, newCell, QE.extend, set_last, len_snoc, callMe, intsV, eqVal, res, Val.chk, Val.chkL, Val.eqv, Val.eqvL, fin_b1, List.count_cons]
theorem ms11 (k : Nat) (S : Sto) : callFn prog (k + 5) 11 [.int 4, .tup [.tup [.tup [.int 2, .int 3], .tup [.int 0, .int 1]], .tup []]] S = .ok (.bl false) S := by rw [run_fn (d := d_fits_marks) rfl rfl]; simp [d_fits_marks, run3, d_is_rising, ev_compS, x_forS, compLoop, forLoop, walkOf, wipe, lim, QE.bin, addV, subV, QE.cmp, ltVal, ints?, lexLtI, leVal, callBi, boolsV, bools?, asList, asSeq, listOf, item, itemOf, atI, ixN, QE.slice, cut, clip, twoOf, zipV, tu_tup, tu_non, tu_lst, fw_int, fw_bl, fw_non, fw_str, fw_tup, newCell, QE.extend, set_last, len_snoc, callMe, intsV, eqVal, res, Val.chk, Val.chkL, Val.eqv, Val.eqvL, fin_b1, List.count_cons]
theorem ms12 (k : Nat) (S : Sto) : callFn prog (k + 5) 11 [.int 4, .tup [.tup [], .tup [.int 1, .int 0]]] S = .ok (.bl false) S := by rw [run_fn (d := d_fits_marks) rfl rfl]; simp [d_fits_marks, run3, d_is_rising, ev_compS, x_forS, compLoop, forLoop, walkOf, wipe, lim, QE.bin, addV, subV, QE.cmp, ltVal, ints?, lexLtI, leVal, callBi, boolsV, bools?, asList, asSeq, listOf, item, itemOf, atI, ixN, QE.slice, cut, clip, twoOf, zipV, tu_tup, tu_non, tu_lst, fw_int, fw_bl, fw_non, fw_str, fw_tup, newCell, QE.extend, set_last, len_snoc, callMe, intsV, eqVal, res, Val.chk, Val.chkL, Val.eqv, Val.eqvL, fin_b1, List.count_cons]
theorem ms13 (k : Nat) (S : Sto) : callFn prog (k + 5) 11 [.int 4, .tup [.tup [], .tup [.int 0, .int 0]]] S = .ok (.bl false) S := by rw [run_fn (d := d_fits_marks) rfl rfl]; simp [d_fits_marks, run3, d_is_rising, ev_compS, x_forS, compLoop, forLoop, walkOf, wipe, lim, QE.bin, addV, subV, QE.cmp, ltVal, ints?, lexLtI, leVal, callBi, boolsV, bools?, asList, asSeq, listOf, item, itemOf, atI, ixN, QE.slice, cut, clip, twoOf, zipV, tu_tup, tu_non, tu_lst, fw_int, fw_bl, fw_non, fw_str, fw_tup, newCell, QE.extend, set_last, len_snoc, callMe, intsV, eqVal, res, Val.chk, Val.chkL, Val.eqv, Val.eqvL, fin_b1, List.count_cons]
theorem ms14 (k : Nat) (S : Sto) : callFn prog (k + 5) 11 [.int 4, .tup [.tup [], .tup [.int 4]]] S = .ok (.bl false) S := by rw [run_fn (d := d_fits_marks) rfl rfl]; simp [d_fits_marks, run3, d_is_rising, ev_compS, x_forS, compLoop, forLoop, walkOf, wipe, lim, QE.bin, addV, subV, QE.cmp, ltVal, ints?, lexLtI, leVal, callBi, boolsV, bools?, asList, asSeq, listOf, item, itemOf, atI, ixN, QE.slice, cut, clip, twoOf, zipV, tu_tup, tu_non, tu_lst, fw_int, fw_bl, fw_non, fw_str, fw_tup, newCell, QE.extend, set_last, len_snoc, callMe, intsV, eqVal, res, Val.chk, Val.chkL, Val.eqv, Val.eqvL, fin_b1, List.count_cons]
theorem ms15 (k : Nat) (S : Sto) : callFn prog (k + 5) 11 [.int 4, .tup [.tup [], .lst false [.int 0]]] S = .ok (.bl false) S := by rw [run_fn (d := d_fits_marks) rfl rfl]; simp [d_fits_marks, run3, d_is_rising, ev_compS, x_forS, compLoop, forLoop, walkOf, wipe, lim, QE.bin, addV, subV, QE.cmp, ltVal, ints?, lexLtI, leVal, callBi, boolsV, bools?, asList, asSeq, listOf, item, itemOf, atI, ixN, QE.slice, cut, clip, twoOf, zipV, tu_tup, tu_non, tu_lst, fw_int, fw_bl, fw_non, fw_str, fw_tup, newCell, QE.extend, set_last, len_snoc, callMe, intsV, eqVal, res, Val.chk, Val.chkL, Val.eqv, Val.eqvL, fin_b1, List.count_cons]
theorem ms16 (k : Nat) (S : Sto) : callFn prog (k + 5) 11 [.int 4, .tup [.lst false [.tup [.int 0, .int 1]], .tup []]] S = .ok (.bl false) S := by rw [run_fn (d := d_fits_marks) rfl rfl]; simp [d_fits_marks, run3, d_is_rising, ev_compS, x_forS, compLoop, forLoop, walkOf, wipe, lim, QE.bin, addV, subV, QE.cmp, ltVal, ints?, lexLtI, leVal, callBi, boolsV, bools?, asList, asSeq, listOf, item, itemOf, atI, ixN, QE.slice, cut, clip, twoOf, zipV, tu_tup, tu_non, tu_lst, fw_int, fw_bl, fw_non, fw_str, fw_tup, newCell, QE.extend, set_last, len_snoc, callMe, intsV, eqVal, res, Val.chk, Val.chkL, Val.eqv, Val.eqvL, fin_b1, List.count_cons]
theorem ms17 (k : Nat) (S : Sto) : callFn prog (k + 5) 11 [.int 4, .tup [.tup [.tup [.int 0, .int 1, .int 2]], .tup []]] S = .ok (.bl false) S := by rw [run_fn (d := d_fits_marks) rfl rfl]; simp [d_fits_marks, run3, d_is_rising, ev_compS, x_forS, compLoop, forLoop, walkOf, wipe, lim, QE.bin, addV, subV, QE.cmp, ltVal, ints?, lexLtI, leVal, callBi, boolsV, bools?, asList, asSeq, listOf, item, itemOf, atI, ixN, QE.slice, cut, clip, twoOf, zipV, tu_tup, tu_non, tu_lst, fw_int, fw_bl, fw_non, fw_str, fw_tup, newCell, QE.extend, set_last, len_snoc, callMe, intsV, eqVal, res, Val.chk, Val.chkL, Val.eqv, Val.eqvL, fin_b1, List.count_cons]
theorem ms18 (k : Nat) (S : Sto) : callFn prog (k + 5) 11 [.int 4, .tup [.tup [.tup [.int 0, .bl true]], .tup []]] S = .ok (.bl false) S := by rw [run_fn (d := d_fits_marks) rfl rfl]; simp [d_fits_marks, run3, d_is_rising, ev_compS, x_forS, compLoop, forLoop, walkOf, wipe, lim, QE.bin, addV, subV, QE.cmp, ltVal, ints?, lexLtI, leVal, callBi, boolsV, bools?, asList, asSeq, listOf, item, itemOf, atI, ixN, QE.slice, cut, clip, twoOf, zipV, tu_tup, tu_non, tu_lst, fw_int, fw_bl, fw_non, fw_str, fw_tup, newCell, QE.extend, set_last, len_snoc, callMe, intsV, eqVal, res, Val.chk, Val.chkL, Val.eqv, Val.eqvL, fin_b1, List.count_cons]
theorem ms19 (k : Nat) (S : Sto) : callFn prog (k + 5) 11 [.int 4, .tup [.tup [.non], .tup []]] S = .ok (.bl false) S := by rw [run_fn (d := d_fits_marks) rfl rfl]; simp [d_fits_marks, run3, d_is_rising, ev_compS, x_forS, compLoop, forLoop, walkOf, wipe, lim, QE.bin, addV, subV, QE.cmp, ltVal, ints?, lexLtI, leVal, callBi, boolsV, bools?, asList, asSeq, listOf, item, itemOf, atI, ixN, QE.slice, cut, clip, twoOf, zipV, tu_tup, tu_non, tu_lst, fw_int, fw_bl, fw_non, fw_str, fw_tup, newCell, QE.extend, set_last, len_snoc, callMe, intsV, eqVal, res, Val.chk, Val.chkL, Val.eqv, Val.eqvL, fin_b1, List.count_cons]
theorem ms20 (k : Nat) (S : Sto) : callFn prog (k + 5) 11 [.int 4, .tup [.tup [], .tup [.str [48]]]] S = .ok (.bl false) S := by rw [run_fn (d := d_fits_marks) rfl rfl]; simp [d_fits_marks, run3, d_is_rising, ev_compS, x_forS, compLoop, forLoop, walkOf, wipe, lim, QE.bin, addV, subV, QE.cmp, ltVal, ints?, lexLtI, leVal, callBi, boolsV, bools?, asList, asSeq, listOf, item, itemOf, atI, ixN, QE.slice, cut, clip, twoOf, zipV, tu_tup, tu_non, tu_lst, fw_int, fw_bl, fw_non, fw_str, fw_tup, newCell, QE.extend, set_last, len_snoc, callMe, intsV, eqVal, res, Val.chk, Val.chkL, Val.eqv, Val.eqvL, fin_b1, List.count_cons]
def Mk (b : Bool) (v : Val) : Prop := v.settle = v ∧ ∀ (k : Nat) (S : Sto), callFn prog (k + 5) 11 [.int 4, v] S = .ok (.bl b) S
theorem mk_good : ∀ v ∈ goods, Mk true v := by
  intro v hv
  simp only [goods, List.cons_append, List.nil_append, List.mem_cons, List.not_mem_nil, or_false] at hv
  rcases hv with rfl | rfl | rfl | rfl
  · exact ⟨rfl, mg0⟩
  · exact ⟨rfl, mg1⟩
  · exact ⟨rfl, mg2⟩
  · exact ⟨rfl, mg3⟩
theorem mk_some : ∀ v ∈ somes1 ++ somes2, Mk false v := by
  intro v hv
  simp only [somes1, somes2, List.cons_append, List.nil_append, List.mem_cons, List.not_mem_nil, or_false] at hv
  rcases hv with rfl | rfl | rfl | rfl | rfl | rfl | rfl | rfl | rfl | rfl | rfl | rfl | rfl | rfl | rfl | rfl | rfl | rfl | rfl | rfl | rfl
  · exact ⟨rfl, ms0⟩
  · exact ⟨rfl, ms1⟩
  · exact ⟨rfl, ms2⟩
  · exact ⟨rfl, ms3⟩
  · exact ⟨rfl, ms4⟩
  · exact ⟨rfl, ms5⟩
  · exact ⟨rfl, ms6⟩
  · exact ⟨rfl, ms7⟩
  · exact ⟨rfl, ms8⟩
  · exact ⟨rfl, ms9⟩
  · exact ⟨rfl, ms10⟩
  · exact ⟨rfl, ms11⟩
  · exact ⟨rfl, ms12⟩
  · exact ⟨rfl, ms13⟩
  · exact ⟨rfl, ms14⟩
  · exact ⟨rfl, ms15⟩
  · exact ⟨rfl, ms16⟩
  · exact ⟨rfl, ms17⟩
  · exact ⟨rfl, ms18⟩
  · exact ⟨rfl, ms19⟩
  · exact ⟨rfl, ms20⟩
end K10

set_option linter.all false
set_option maxRecDepth 10000
namespace K10
open QE
theorem are_m {b : Bool} {v : Val} (h : Mk b v) (k : Nat) (S : Sto) : callFn prog (k + 6) 25 [.int 4, v] S = .ok (.bl b) S := by
  rw [run_fn (d := d_are_marks) rfl rfl]
  have e := fw_int (k + 3) 4 1 40 S
  simp [d_are_marks, e, h.1, h.2]
/-! ### no numbers -/
def BadN (m : Int) (v : Val) : Prop := v.settle = v ∧ ∀ (k : Nat) (S : Sto), callFn prog (k + 2) 1 [v, .int 1, .int m] S = .ok (.bl false) S
theorem badN_w {m : Int} {v : Val} (h : noW v = true) : BadN m v := ⟨noW_st h, fun k S => fw_not k v _ _ S h⟩
theorem badN_i {m i : Int} (h : (decide (1 ≤ i) && decide (i ≤ m)) = false) : BadN m (.int i) := ⟨rfl, fun k S => by rw [fw_int, h]⟩
def offs : List Val := [.non, .int 0, .int 41, .int (-1), .bl true, .str [52]]
def sizes : List Val := [.non, .int 0, .int 9, .bl true, .str [50]]
theorem off_all : ∀ v ∈ offs, BadN 40 v := by
  intro v hv
  simp only [offs, List.mem_cons, List.not_mem_nil, or_false] at hv
  rcases hv with rfl | rfl | rfl | rfl | rfl | rfl
  · exact badN_w rfl
  · exact badN_i (by decide)
  · exact badN_i (by decide)
  · exact badN_i (by decide)
  · exact badN_w rfl
  · exact badN_w rfl
theorem size_all : ∀ v ∈ sizes, BadN 8 v := by
  intro v hv
  simp only [sizes, List.mem_cons, List.not_mem_nil, or_false] at hv
  rcases hv with rfl | rfl | rfl | rfl | rfl
  · exact badN_w rfl
  · exact badN_i (by decide)
  · exact badN_i (by decide)
  · exact badN_w rfl
  · exact badN_w rfl
section
variable (k : Nat) (S : Sto)
theorem are_off {v : Val} (h : BadN 40 v) (u : Val) : callFn prog (k + 6) 25 [v, u] S = .exc 3 [] S := by
  rw [run_fn (d := d_are_marks) rfl rfl]
  simp [d_are_marks, h.1, h.2 (k + 3)]
theorem nm_off {v : Val} (h : BadN 40 v) (u : Val) : callFn prog (k + 6) 12 [v, u] S = .exc 3 [] S := by
  rw [run_fn (d := d_need_marks) rfl rfl]
  simp [d_need_marks, h.1, h.2 (k + 3)]
theorem nm_odd {v : Val} (h : Mk false v) : callFn prog (k + 6) 12 [.int 4, v] S = .exc 2 [] S := by
  rw [run_fn (d := d_need_marks) rfl rfl]
  have e := fw_int (k + 3) 4 1 40 S
  simp [d_need_marks, h.1, h.2, e]
theorem nm_ok {v : Val} (h : Mk true v) : callFn prog (k + 6) 12 [.int 4, v] S = .ok .non S := by
  rw [run_fn (d := d_need_marks) rfl rfl]
  have e := fw_int (k + 3) 4 1 40 S
  simp [d_need_marks, h.1, h.2, e]
theorem no_most {v : Val} (h : BadN 8 v) : callFn prog (k + 6) 13 [v] S = .exc 3 [] S := by
  rw [run_fn (d := d_need_most) rfl rfl]
  simp [d_need_most, h.1, h.2 (k + 3)]
theorem f27_off {v : Val} (h : BadN 40 v) (u z : Val) : callFn prog (k + 7) 27 [v, u, z] S = .exc 3 [] S := by
  rw [run_fn (d := d_fewest_lost) rfl rfl]
  simp [d_fewest_lost, h.1, nm_off k S h]
theorem f28_off {v : Val} (h : BadN 40 v) (u z : Val) : callFn prog (k + 7) 28 [v, u, z] S = .exc 3 [] S := by
  rw [run_fn (d := d_best_book) rfl rfl]
  simp [d_best_book, h.1, nm_off k S h]
theorem f27_odd {v : Val} (h : Mk false v) (z : Val) : callFn prog (k + 7) 27 [.int 4, v, z] S = .exc 2 [] S := by
  rw [run_fn (d := d_fewest_lost) rfl rfl]
  simp [d_fewest_lost, h.1, nm_odd k S h]
theorem f28_odd {v : Val} (h : Mk false v) (z : Val) : callFn prog (k + 7) 28 [.int 4, v, z] S = .exc 2 [] S := by
  rw [run_fn (d := d_best_book) rfl rfl]
  simp [d_best_book, h.1, nm_odd k S h]
theorem f27_size {v z : Val} (h : Mk true v) (hz : BadN 8 z) : callFn prog (k + 7) 27 [.int 4, v, z] S = .exc 3 [] S := by
  rw [run_fn (d := d_fewest_lost) rfl rfl]
  simp [d_fewest_lost, h.1, nm_ok k S h, hz.1, no_most k S hz]
theorem f28_size {v z : Val} (h : Mk true v) (hz : BadN 8 z) : callFn prog (k + 7) 28 [.int 4, v, z] S = .exc 3 [] S := by
  rw [run_fn (d := d_best_book) rfl rfl]
  simp [d_best_book, h.1, nm_ok k S h, hz.1, no_most k S hz]
end
/-! ### books that are asked whether they fit -/
def b48 : List G := List.replicate 3 (8, [1, 2, 3, 4, 5, 6, 7, 8, 9, 10, 11, 12, 13, 14, 15, 16])
def b4 : List G := [(2, [1, 2, 3, 4])]
theorem vb48 : VB b48 := ⟨by decide, by decide, fun g hg => by
  have := List.eq_of_mem_replicate hg
  subst this
  exact ⟨by decide, by decide, by decide, by decide, by decide⟩⟩
theorem vb4 : VB b4 := ⟨by decide, by decide, fun g hg => by
  have := List.mem_singleton.mp hg
  subst this
  exact ⟨by decide, by decide, by decide, by decide, by decide⟩⟩
theorem pl48 : (places b48).length = 48 := by decide
theorem pl4 : (places b4).length = 4 := by decide
theorem pr4 : pairs b4 = [(0, 3), (1, 2)] := by decide
theorem ln4 : lones b4 = [] := by decide
section
variable (k : Nat) (S : Sto)
theorem df48 (v : Val) : callFn prog (k + 7) 26 [encB b48, v] S = .exc 1 [] S := by
  rw [run_fn (d := d_does_fit) rfl rfl]
  have hl : callBi S .len [.lst false ((places b48).map encP)] = some (.int 48) := by simp [callBi, lenOf, asSeq, asList, pl48]
  simp [d_does_fit, nbV (k + 1) S vb48, pl (k + 5) S vb48, hl, QE.cmp, gtVal]
theorem df_odd {v : Val} (h : Mk false v) : callFn prog (k + 7) 26 [encB b4, v] S = .exc 2 [] S := by
  rw [run_fn (d := d_does_fit) rfl rfl]
  have hl : callBi S .len [.lst false ((places b4).map encP)] = some (.int 4) := by simp [callBi, lenOf, asSeq, asList, pl4]
  simp [d_does_fit, nbV (k + 1) S vb4, pl (k + 5) S vb4, hl, QE.cmp, gtVal, h.1, h.2 (k + 1)]
theorem in_p (p : Nat × Nat) (S : Sto) (r : Bool) (h : decide (p ∈ pairs b4) = r) : QE.cmp S .in_ (.tup [.int p.1, .int p.2]) (.lst false ((pairs b4).map encP)) = some r := by rw [← h]; exact in_P S p (pairs b4)
theorem in_l (p : Nat) (S : Sto) (r : Bool) (h : decide (p ∈ lones b4) = r) : QE.cmp S .in_ (.int p) (.lst false ((lones b4).map nv)) = some r := by rw [← h]; exact in_nv S p (lones b4)
theorem df_good {v : Val} (hv : v ∈ goods) : ∃ r, callFn prog (k + 7) 26 [encB b4, v] S = .ok r S := by
  have h := mk_good v hv
  have hl : callBi S .len [.lst false ((places b4).map encP)] = some (.int 4) := by simp [callBi, lenOf, asSeq, asList, pl4]
  have e := h.2 (k + 1) S
  have hgt : QE.cmp S .gt (.int 4) (.int 40) = some false := rfl
  have i1 := in_p (0, 1) S false (by decide)
  have i2 := in_p (0, 3) S true (by decide)
  have i3 := in_p (1, 2) S true (by decide)
  have j0 := in_l 0 S false (by decide)
  have j1 := in_l 1 S false (by decide)
  have j2 := in_l 2 S false (by decide)
  have j3 := in_l 3 S false (by decide)
  have b0 : callBi S .all [.lst false []] = some (.bl true) := rfl
  have b1 : callBi S .all [.lst false [.bl false]] = some (.bl false) := rfl
  have b2 : callBi S .all [.lst false [.bl true, .bl true]] = some (.bl true) := rfl
  have b3 : callBi S .all [.lst false [.bl false, .bl false, .bl false, .bl false]] = some (.bl false) := rfl
  simp only [goods, List.mem_cons, List.not_mem_nil, or_false] at hv
  simp only [Int.natCast_zero, Int.natCast_one, Int.cast_ofNat_Int] at i1 i2 i3 j0 j1 j2 j3
  rcases hv with rfl | rfl | rfl | rfl
  · refine ⟨.bl true, ?_⟩; rw [run_fn (d := d_does_fit) rfl rfl]; simp [d_does_fit, nbV (k + 1) S vb4, pl (k + 5) S vb4, hl, hgt, e, pr (k + 4) S vb4, ln (k + 3) S vb4, ev_compS, compLoop, wipe, walkOf, item, itemOf, atI, ixN, lim, i1, i2, i3, j0, j1, j2, j3, b0, b1, b2, b3]
  · refine ⟨.bl false, ?_⟩; rw [run_fn (d := d_does_fit) rfl rfl]; simp [d_does_fit, nbV (k + 1) S vb4, pl (k + 5) S vb4, hl, hgt, e, pr (k + 4) S vb4, ln (k + 3) S vb4, ev_compS, compLoop, wipe, walkOf, item, itemOf, atI, ixN, lim, i1, i2, i3, j0, j1, j2, j3, b0, b1, b2, b3]
  · refine ⟨.bl true, ?_⟩; rw [run_fn (d := d_does_fit) rfl rfl]; simp [d_does_fit, nbV (k + 1) S vb4, pl (k + 5) S vb4, hl, hgt, e, pr (k + 4) S vb4, ln (k + 3) S vb4, ev_compS, compLoop, wipe, walkOf, item, itemOf, atI, ixN, lim, i1, i2, i3, j0, j1, j2, j3, b0, b1, b2, b3]
  · refine ⟨.bl false, ?_⟩; rw [run_fn (d := d_does_fit) rfl rfl]; simp [d_does_fit, nbV (k + 1) S vb4, pl (k + 5) S vb4, hl, hgt, e, pr (k + 4) S vb4, ln (k + 3) S vb4, ev_compS, compLoop, wipe, walkOf, item, itemOf, atI, ixN, lim, i1, i2, i3, j0, j1, j2, j3, b0, b1, b2, b3]
end
end K10

set_option linter.all false
set_option maxRecDepth 10000
namespace K10
open QE
abbrev cx : Ctx := cxt prog 9 2
abbrev en (sv : Val) (x2 x3 x4 x5 x6 x7 x8 x9 x10 x11 x12 x13 x14 x15 x16 : Option Val) : Env := [some sv, some (.ref 2), x2, x3, x4, x5, x6, x7, x8, x9, x10, x11, x12, x13, x14, x15, x16]
theorem tb1 (a c : Int) (R : Sto) : tblAt (st a c R) 1 283 lq_law = true := by simp [tblAt]
theorem tb0 (a c : Int) (R : Sto) : tblAt (st a c R) 0 278 lq__law_seven = true := by simp [tblAt]
theorem plFrom_sum : ∀ (b : List G) (n : Nat), (b.map fun g => (g.2.length : Int)).sum = ((plFrom n b).length : Int)
  | [], n => rfl
  | g :: b, n => by
    simp only [List.map_cons, List.sum_cons, plFrom, List.length_append, List.length_map, plFrom_sum b (n + 1)]
    push_cast
    rfl
abbrev M (b : List G) : Nat := (places b).length
section
variable (R : Sto) (a c : Int) (ha : 0 ≤ a) (sv : Val) (x2 x3 x4 x5 x6 x7 x8 x9 x10 x11 x12 x13 x14 x15 x16 : Option Val)
include ha
theorem s0 : ∃ (b : List G) (a' c' : Int), VB b ∧ 0 ≤ a' ∧ execS cx (.asg (.name 3) (.call 32 [(.var 1), (.lit (.int 4)), (.lit (.int 4))])) (en sv x2 x3 x4 x5 x6 x7 x8 x9 x10 x11 x12 x13 x14 x15 x16) (st a c R) = .ok (.nx, (en sv x2 (some (encB b)) x4 x5 x6 x7 x8 x9 x10 x11 x12 x13 x14 x15 x16)) (st a' c' R) := by
  obtain ⟨b, a', c', h, ha', hb⟩ := bk 7 R a c ha
  exact ⟨b, a', c', h, ha', by simp [hb]⟩
variable {b : List G} (h : VB b)
include h
omit ha in
theorem s1 : execS cx (.asg (.name 4) (.bi .sum [(.comp [13, 14] (.tup [(.name 13), (.name 14)]) (.it (.var 3)) [] (.bi .len [(.var 14)]))])) (en sv x2 (some (encB b)) x4 x5 x6 x7 x8 x9 x10 x11 x12 x13 x14 x15 x16) (st a c R) = .ok (.nx, (en sv x2 (some (encB b)) (some (nv (M b))) x5 x6 x7 x8 x9 x10 x11 x12 x13 x14 x15 x16)) (st a c R) := by
  have hc := ev_comp (c := cx) (own := [13, 14]) (tg := .tup [.name 13, .name 14]) (src := .it (.var 3)) (ifs := []) (elt := .bi .len [.var 14]) (env := (en sv x2 (some (encB b)) x4 x5 x6 x7 x8 x9 x10 x11 x12 x13 x14 x15 x16)) (S := st a c R) (S1 := st a c R) (S2 := st a c R)
    (xs := b.map encG) (by simp [encB, walkOf])
    (comp_all encG (fun g => .int (g.2.length : Int)) b fun g _ => ⟨_, by simp only [encG, bind_tup, binds_cons, bind_name, binds_nil]; rfl, by
      simp [wipe, callBi, lenOf, asSeq]⟩)
    (by rw [List.length_map]; have := h.few; exact len_lim (by omega))
  have hs : (b.map fun g => (g.2.length : Int)).sum = (M b : Int) := plFrom_sum b 0
  simp only [set_int] at hc
  have hi : callBi (st a c R) .sum [.lst false (b.map fun g => Val.int (g.2.length : Int))] = some (nv (M b)) := by
    simp only [callBi, intsV, asList]
    rw [ints_map]
    simp [hs, nv]
  simp [hc, hi]
theorem s2 : ∃ (v : Val) (a' c' : Int), v ∈ bads b ∧ 0 ≤ a' ∧ execS cx (.asg (.name 5) (.call 31 [(.var 1), (.list [(.lit .non), (.tup []), (.bi .list [(.var 3)]), (.bin .add (.var 3) (.tup [(.lit .non)])), (.tup [(.tup [(.lit (.int 9)), (.tup [(.lit (.int 1))])])]), (.tup [(.tup [(.lit (.int 1)), (.tup [])])]), (.tup [(.tup [(.lit (.int 1)), (.tup [(.lit (.int 2)), (.lit (.int 1))])])]), (.tup [(.tup [(.lit (.int 1)), (.tup [(.lit (.int 3))])])])])])) (en sv x2 (some (encB b)) (some (nv (M b))) x5 x6 x7 x8 x9 x10 x11 x12 x13 x14 x15 x16) (st a c R) = .ok (.nx, (en sv x2 (some (encB b)) (some (nv (M b))) (some v) x6 x7 x8 x9 x10 x11 x12 x13 x14 x15 x16)) (st a' c' R) := by
  obtain ⟨v, a', c', hv, ha', e⟩ := some_of 7 R a c ha (bads b) (by simp [bads]) (by simp [bads])
  have hs := (bad_all h v hv).1
  have b2 : QE.bin (st a c R) .add (encB b) (.tup [.non]) = some (.tup (b.map encG ++ [.non])) := by
    have : b.length + 1 ≤ lim := by have := h.few; simp only [lim]; omega
    simp [QE.bin, addV, encB, this]
  have hl : callBi (st a c R) .list [encB b] = some (.lst true (b.map encG)) := by simp [encB, callBi, listOf, asSeq]
  refine ⟨v, a', c', hv, ha', ?_⟩
  simp only [bads] at e
  simp [hl, b2, lim, e, hs]
theorem s3 : ∃ (v : Val) (a' c' : Int), v ∈ leafs (M b) ∧ 0 ≤ a' ∧ execS cx (.asg (.name 6) (.call 31 [(.var 1), (.list [(.lit .non), (.neg (.lit (.int 1))), (.var 4), (.lit (.bl true)), (.lit (.str [48])), (.tup [(.lit (.int 0))])])])) (en sv x2 (some (encB b)) (some (nv (M b))) x5 x6 x7 x8 x9 x10 x11 x12 x13 x14 x15 x16) (st a c R) = .ok (.nx, (en sv x2 (some (encB b)) (some (nv (M b))) x5 (some v) x7 x8 x9 x10 x11 x12 x13 x14 x15 x16)) (st a' c' R) := by
  obtain ⟨v, a', c', hv, ha', e⟩ := some_of 7 R a c ha (leafs (M b)) (by simp [leafs]) (by simp [leafs])
  have hs := (badL_all (M b) v hv).1
  refine ⟨v, a', c', hv, ha', ?_⟩
  simp only [leafs] at e
  simp [lim, e, hs]
theorem s4 {v l : Val} (hv : v ∈ bads b) (hl : l ∈ leafs (M b)) : ∃ (a' c' : Int), 0 ≤ a' ∧ execS cx (.if_ (.or [(.cmp .ne (.call 34 [(.var 5), (.var 6)]) (.bin .mul (.list [(.tup [(.lit (.str [114, 101, 97, 100, 105, 110, 103, 115]))])]) (.lit (.int 7)))), (.cmp .ne (.call 34 [(.var 3), (.var 6)]) (.bin .add (.bin .mul (.list [(.tup [])]) (.lit (.int 4))) (.bin .mul (.list [(.tup [(.lit (.str [110, 117, 109, 98, 101, 114]))])]) (.lit (.int 3))))), (.cmp .ne (.call 34 [(.var 3), (.call 30 [(.var 1), (.var 4)])]) (.bin .mul (.list [(.tup [])]) (.lit (.int 7))))]) [(.ret (.lit (.bl false)))] []) (en sv x2 (some (encB b)) (some (nv (M b))) (some v) (some l) x7 x8 x9 x10 x11 x12 x13 x14 x15 x16) (st a c R) = .ok (.nx, (en sv x2 (some (encB b)) (some (nv (M b))) (some v) (some l) x7 x8 x9 x10 x11 x12 x13 x14 x15 x16)) (st a' c' R) := by
  have hv := bad_all h v hv
  have hl := badL_all (M b) l hl
  have hM : M b ≤ 80 := places_len h
  have hM1 : 1 ≤ M b := places_pos h
  obtain ⟨r, a', c', h2, h3, h4, h5⟩ := roll 8 R a c (M b) ha (by omega) (by omega)
  have e1 := seven_bad 1 (st a c R) (tb0 a c R) hv l hl.1
  have e2 := seven_leaf 0 (st a c R) (tb0 a c R) h hl
  have e3 := seven_ok 0 (st a' c' R) (tb0 a' c' R) h r.toNat (show r.toNat < M b by omega)
  have hr : nv r.toNat = .int r := by simp only [nv, Val.int.injEq]; omega
  rw [hr] at e3
  have h5 : callFn prog 9 30 [.ref 2, nv (M b)] (st a c R) = .ok (.int r) (st a' c' R) := h5
  have c1 : QE.cmp (st a c R) .ne (.lst true [wR, wR, wR, wR, wR, wR, wR]) (.lst true [wR, wR, wR, wR, wR, wR, wR]) = some false := rfl
  have c2 : QE.cmp (st a c R) .ne (.lst true [wO, wO, wO, wO, wN, wN, wN]) (.lst true [wO, wO, wO, wO, wN, wN, wN]) = some false := rfl
  have c3 : QE.cmp (st a' c' R) .ne (.lst true [wO, wO, wO, wO, wO, wO, wO]) (.lst true [wO, wO, wO, wO, wO, wO, wO]) = some false := rfl
  have m1 : QE.bin (st a c R) .mul (.lst true [.tup [.str [114, 101, 97, 100, 105, 110, 103, 115]]]) (.int 7) = some (.lst true [wR, wR, wR, wR, wR, wR, wR]) := rfl
  have m2 : QE.bin (st a c R) .mul (.lst true [.tup []]) (.int 4) = some (.lst true [wO, wO, wO, wO]) := rfl
  have m3 : QE.bin (st a c R) .mul (.lst true [.tup [.str [110, 117, 109, 98, 101, 114]]]) (.int 3) = some (.lst true [wN, wN, wN]) := rfl
  have m4 : QE.bin (st a c R) .add (.lst true [wO, wO, wO, wO]) (.lst true [wN, wN, wN]) = some (.lst true [wO, wO, wO, wO, wN, wN, wN]) := rfl
  have m5 : QE.bin (st a' c' R) .mul (.lst true [.tup []]) (.int 7) = some (.lst true [wO, wO, wO, wO, wO, wO, wO]) := rfl
  refine ⟨a', c', h4, ?_⟩
  simp [hv.1, hl.1, e1, e2, e3, h5, c1, c2, c3, m1, m2, m3, m4, m5, lim]
end
section
variable (S : Sto) (sv : Val) (x2 x3 x4 x5 x6 x7 x8 x9 x10 x11 x12 x13 x14 x15 x16 : Option Val)
abbrev gV : Val := .lst false goods
abbrev oV : Val := .lst false (somes1 ++ somes2)
theorem s5 : execS cx (.asg (.name 7) (.list [(.tup [(.tup []), (.tup [])]), (.tup [(.tup [(.tup [(.lit (.int 0)), (.lit (.int 1))])]), (.tup [(.lit (.int 2))])]), (.tup [(.tup [(.tup [(.lit (.int 0)), (.lit (.int 3))]), (.tup [(.lit (.int 1)), (.lit (.int 2))])]), (.tup [])]), (.tup [(.tup []), (.tup [(.lit (.int 0)), (.lit (.int 1)), (.lit (.int 2)), (.lit (.int 3))])])])) (en sv x2 x3 x4 x5 x6 x7 x8 x9 x10 x11 x12 x13 x14 x15 x16) S = .ok (.nx, (en sv x2 x3 x4 x5 x6 (some gV) x8 x9 x10 x11 x12 x13 x14 x15 x16)) S := by simp [lim, goods]
theorem s6 : execS cx (.asg (.name 8) (.list [(.lit .non), (.list [(.tup []), (.tup [])]), (.tup [(.tup [])]), (.tup [(.tup []), (.tup []), (.tup [])]), (.tup [(.tup [(.tup [(.lit (.int 0)), (.lit (.int 0))])]), (.tup [])]), (.tup [(.tup [(.tup [(.lit (.int 1)), (.lit (.int 0))])]), (.tup [])]), (.tup [(.tup [(.tup [(.lit (.int 0)), (.lit (.int 4))])]), (.tup [])]), (.tup [(.tup [(.tup [(.neg (.lit (.int 1))), (.lit (.int 0))])]), (.tup [])]), (.tup [(.tup [(.tup [(.lit (.int 0)), (.lit (.int 1))]), (.tup [(.lit (.int 0)), (.lit (.int 2))])]), (.tup [])]), (.tup [(.tup [(.tup [(.lit (.int 0)), (.lit (.int 1))]), (.tup [(.lit (.int 1)), (.lit (.int 2))])]), (.tup [])])])) (en sv x2 x3 x4 x5 x6 x7 x8 x9 x10 x11 x12 x13 x14 x15 x16) S = .ok (.nx, (en sv x2 x3 x4 x5 x6 x7 (some (.lst false somes1)) x9 x10 x11 x12 x13 x14 x15 x16)) S := by simp [lim, somes1]
theorem s7 : execS cx (.asg (.name 8) (.bin .add (.var 8) (.list [(.tup [(.tup [(.tup [(.lit (.int 0)), (.lit (.int 1))])]), (.tup [(.lit (.int 1))])]), (.tup [(.tup [(.tup [(.lit (.int 2)), (.lit (.int 3))]), (.tup [(.lit (.int 0)), (.lit (.int 1))])]), (.tup [])]), (.tup [(.tup []), (.tup [(.lit (.int 1)), (.lit (.int 0))])]), (.tup [(.tup []), (.tup [(.lit (.int 0)), (.lit (.int 0))])]), (.tup [(.tup []), (.tup [(.lit (.int 4))])]), (.tup [(.tup []), (.list [(.lit (.int 0))])]), (.tup [(.list [(.tup [(.lit (.int 0)), (.lit (.int 1))])]), (.tup [])]), (.tup [(.tup [(.tup [(.lit (.int 0)), (.lit (.int 1)), (.lit (.int 2))])]), (.tup [])]), (.tup [(.tup [(.tup [(.lit (.int 0)), (.lit (.bl true))])]), (.tup [])]), (.tup [(.tup [(.lit .non)]), (.tup [])]), (.tup [(.tup []), (.tup [(.lit (.str [48]))])])]))) (en sv x2 x3 x4 x5 x6 x7 (some (.lst false somes1)) x9 x10 x11 x12 x13 x14 x15 x16) S = .ok (.nx, (en sv x2 x3 x4 x5 x6 x7 (some oV) x9 x10 x11 x12 x13 x14 x15 x16)) S := by
  have : QE.bin S .add (.lst false somes1) (.lst true somes2) = some (.lst true (somes1 ++ somes2)) := rfl
  simp only [somes2] at this
  simp [lim, this]
  simp [somes2]
theorem s8 : execS cx (.if_ (.or [(.cmp .ne (.comp [16] (.name 16) (.it (.var 7)) [(.cmp .isn (.call 25 [(.lit (.int 4)), (.var 16)]) (.lit (.bl true)))] (.var 16)) (.list [])), (.cmp .ne (.comp [16] (.name 16) (.it (.var 8)) [(.cmp .isn (.call 25 [(.lit (.int 4)), (.var 16)]) (.lit (.bl false)))] (.var 16)) (.list []))]) [(.ret (.lit (.bl false)))] []) (en sv x2 x3 x4 x5 x6 (some gV) (some oV) x9 x10 x11 x12 x13 x14 x15 x16) S = .ok (.nx, (en sv x2 x3 x4 x5 x6 (some gV) (some oV) x9 x10 x11 x12 x13 x14 x15 x16)) S := by
  have hc := ev_comp (c := cx) (own := [16]) (tg := .name 16) (src := .it (.var 7)) (ifs := [.cmp .isn (.call 25 [.lit (.int 4), .var 16]) (.lit (.bl true))]) (elt := .var 16) (env := (en sv x2 x3 x4 x5 x6 (some gV) (some oV) x9 x10 x11 x12 x13 x14 x15 x16)) (S := S) (S1 := S) (S2 := S)
    (xs := goods.map id) (by simp [walkOf])
    (comp_run id (fun _ => false) id goods fun v hv => ⟨_, by simp only [id, bind_name, (mk_good v hv).1]; rfl, by
      have e := are_m (mk_good v hv) 3 S
      have i : QE.cmp S .isn (.bl true) (.bl true) = some false := rfl
      simp [wipe, (mk_good v hv).1, e, i], fun z => by cases z⟩)
    (by rw [List.length_map]; exact Nat.le_trans (List.length_filter_le _ _) (by simp [goods, lim]))
  have hc2 := ev_comp (c := cx) (own := [16]) (tg := .name 16) (src := .it (.var 8)) (ifs := [.cmp .isn (.call 25 [.lit (.int 4), .var 16]) (.lit (.bl false))]) (elt := .var 16) (env := (en sv x2 x3 x4 x5 x6 (some gV) (some oV) x9 x10 x11 x12 x13 x14 x15 x16)) (S := S) (S1 := S) (S2 := S)
    (xs := (somes1 ++ somes2).map id) (by simp [walkOf])
    (comp_run id (fun _ => false) id (somes1 ++ somes2) fun v hv => ⟨_, by simp only [id, bind_name, (mk_some v hv).1]; rfl, by
      have e := are_m (mk_some v hv) 3 S
      have i : QE.cmp S .isn (.bl false) (.bl false) = some false := rfl
      simp [wipe, (mk_some v hv).1, e, i], fun z => by cases z⟩)
    (by rw [List.length_map]; exact Nat.le_trans (List.length_filter_le _ _) (by simp [somes1, somes2, lim]))
  have hn : ∀ l : List Val, (l.filter fun _ => false).map (fun a => (id a).settle) = [] := fun l => by
    rw [List.filter_eq_nil_iff.mpr (fun _ _ => by simp)]
    rfl
  rw [hn] at hc hc2
  have hne : QE.cmp S .ne (.lst true []) (.lst true []) = some false := rfl
  rw [x_if, ev_or, eor_cons, ev_cmp, hc]
  simp [hne, hc2, lim]
end
section
variable (R : Sto) (a c : Int) (ha : 0 ≤ a) (sv : Val) (x2 x3 x4 x5 x6 x7 x8 x9 x10 x11 x12 x13 x14 x15 x16 : Option Val)
theorem s9 (ha : 0 ≤ a) : ∃ (u v w : Val) (a' c' : Int), u ∈ somes1 ++ somes2 ∧ v ∈ offs ∧ w ∈ sizes ∧ 0 ≤ a' ∧ execS cx (.asg (.tup [(.name 9), (.name 10), (.name 11)]) (.tup [(.call 31 [(.var 1), (.var 8)]), (.call 31 [(.var 1), (.list [(.lit .non), (.lit (.int 0)), (.lit (.int 41)), (.neg (.lit (.int 1))), (.lit (.bl true)), (.lit (.str [52]))])]), (.call 31 [(.var 1), (.list [(.lit .non), (.lit (.int 0)), (.lit (.int 9)), (.lit (.bl true)), (.lit (.str [50]))])])])) (en sv x2 x3 x4 x5 x6 (some gV) (some oV) x9 x10 x11 x12 x13 x14 x15 x16) (st a c R) = .ok (.nx, (en sv x2 x3 x4 x5 x6 (some gV) (some oV) (some u) (some v) (some w) x12 x13 x14 x15 x16)) (st a' c' R) := by
  obtain ⟨u, a1, c1, hu, h1, e1⟩ := some_of 7 R a c ha (somes1 ++ somes2) (by simp [somes1]) (by simp [somes1, somes2])
  obtain ⟨v, a2, c2, hv, h2, e2⟩ := some_of 7 R a1 c1 h1 offs (by simp [offs]) (by simp [offs])
  obtain ⟨w, a3, c3, hw, h3, e3⟩ := some_of 7 R a2 c2 h2 sizes (by simp [sizes]) (by simp [sizes])
  refine ⟨u, v, w, a3, c3, hu, hv, hw, h3, ?_⟩
  have s1 := (mk_some u hu).1
  have s2 := (off_all v hv).1
  have s3 := (size_all w hw).1
  simp only [offs] at e2
  simp only [sizes] at e3
  simp [e1, e2, e3, s1, s2, s3, lim]
/-- the cell of words -/
abbrev cw (R : Sto) : Option Val := some (.ref (R.length + 3))
theorem cw_at (a c : Int) (R : Sto) (ws : List Val) : (st a c (R ++ [.lst ws]))[R.length + 3]? = some (.lst ws) := by simp
theorem cw_list (a c : Int) (R : Sto) (ws : List Val) : asList (st a c (R ++ [.lst ws])) (.ref (R.length + 3)) = some ws := by simp [asList]
theorem add_w (a c : Int) (R : Sto) (ws vs : List Val) (h : ws.length + vs.length ≤ lim) : QE.bin (st a c (R ++ [.lst ws])) .add (.ref (R.length + 3)) (.lst true vs) = some (.lst true (ws ++ vs)) := by
  have := cw_list a c R ws
  simp only [QE.bin, addV, this]
  simp [asList, h]
theorem len_st (a c : Int) (R : Sto) : (st a c R).length = R.length + 3 := rfl
theorem st_app (a c : Int) (R : Sto) (o : Ob) : st a c R ++ [o] = st a c (R ++ [o]) := rfl
theorem two27 (k n a : Int) (S : Sto) : True := trivial
variable {u v w : Val} (hu : u ∈ somes1 ++ somes2) (hv : v ∈ offs) (hw : w ∈ sizes)
include hu hv hw
theorem s10 : execS cx (.asg (.name 12) (.cell (.list [(.guard 33 1 tp_law lq_law (.call 25 [(.var 10), (.lit .non)]))]))) (en sv x2 x3 x4 x5 x6 (some gV) x8 (some u) (some v) (some w) x12 x13 x14 x15 x16) (st a c R) = .ok (.nx, (en sv x2 x3 x4 x5 x6 (some gV) x8 (some u) (some v) (some w) (cw R) x13 x14 x15 x16)) (st a c (R ++ [.lst [wN]])) := by
  have hv := off_all v hv
  have e := are_off 3 (st a c R) hv .non
  have t := tb1 a c R
  simp only [x_asg, ev_cell, ev_list, es_cons, es_nil, ev_guard, eX_call, ev_var, ev_lit, List.getElem?_cons_succ, List.getElem?_cons_zero, QE.R.bind_okS, QE.R.calm_okS, hv.1, set_non, cxt_call, e, t, if_true, guard_exc, cxt_gx, g_3, wN_st, newCell, bind_name, set_ref, len_st, st_app, QE.R.of_some, lim, List.length_cons, List.length_nil]
  rfl
theorem s11 (ws : List Val) (hl : ws.length ≤ 100) : execS cx (.asg (.name 12) (.cell (.bin .add (.var 12) (.comp [15] (.name 15) (.it (.tup [(.fn 27), (.fn 28)])) [] (.guard 33 1 tp_law lq_law (.callV 15 [(.var 10), (.var 9), (.var 11)])))))) (en sv x2 x3 x4 x5 x6 (some gV) x8 (some u) (some v) (some w) (cw R) x13 x14 x15 x16) (st a c (R ++ [.lst ws])) = .ok (.nx, (en sv x2 x3 x4 x5 x6 (some gV) x8 (some u) (some v) (some w) (cw (R ++ [.lst ws])) x13 x14 x15 x16)) (st a c (R ++ [.lst ws] ++ [.lst (ws ++ [wN, wN])])) := by
  have hu := mk_some u hu
  have hv := off_all v hv
  have hw := size_all w hw
  have t := tb1 a c (R ++ [.lst ws])
  have e1 := f27_off 2 (st a c (R ++ [.lst ws])) hv u w
  have e2 := f28_off 2 (st a c (R ++ [.lst ws])) hv u w
  have ad := add_w a c R ws [wN, wN] (by simp [lim]; omega)
  have hc : evalE cx (.comp [15] (.name 15) (.it (.tup [.fn 27, .fn 28])) [] (.guard 33 1 tp_law lq_law (.callV 15 [(.var 10), (.var 9), (.var 11)]))) (en sv x2 x3 x4 x5 x6 (some gV) x8 (some u) (some v) (some w) (cw R) x13 x14 x15 x16) (st a c (R ++ [.lst ws])) = .ok (.lst true [wN, wN]) (st a c (R ++ [.lst ws])) := by
    simp [ev_compS, compLoop, walkOf, wipe, a27, a28, t, fnAt, hu.1, hv.1, hw.1, e1, e2, lim]
  rw [x_asg, ev_cell, ev_bin, ev_var]
  simp only [List.getElem?_cons_succ, List.getElem?_cons_zero, QE.R.bind_okS]
  rw [hc]
  simp only [ev_var, List.getElem?_cons_succ, List.getElem?_cons_zero, QE.R.bind_okS, ad, QE.R.of_some, newCell, QE.R.calm_okS, bind_name, set_ref, len_st, st_app]
  rfl
theorem s12 (ws : List Val) (hl : ws.length ≤ 100) : execS cx (.asg (.name 12) (.cell (.bin .add (.var 12) (.comp [15] (.name 15) (.it (.tup [(.fn 27), (.fn 28)])) [] (.guard 33 1 tp_law lq_law (.callV 15 [(.lit (.int 4)), (.var 9), (.var 11)])))))) (en sv x2 x3 x4 x5 x6 (some gV) x8 (some u) (some v) (some w) (cw R) x13 x14 x15 x16) (st a c (R ++ [.lst ws])) = .ok (.nx, (en sv x2 x3 x4 x5 x6 (some gV) x8 (some u) (some v) (some w) (cw (R ++ [.lst ws])) x13 x14 x15 x16)) (st a c (R ++ [.lst ws] ++ [.lst (ws ++ [wC, wC])])) := by
  have hu := mk_some u hu
  have hv := off_all v hv
  have hw := size_all w hw
  have t := tb1 a c (R ++ [.lst ws])
  have e1 := f27_odd 2 (st a c (R ++ [.lst ws])) hu w
  have e2 := f28_odd 2 (st a c (R ++ [.lst ws])) hu w
  have ad := add_w a c R ws [wC, wC] (by simp [lim]; omega)
  have hc : evalE cx (.comp [15] (.name 15) (.it (.tup [.fn 27, .fn 28])) [] (.guard 33 1 tp_law lq_law (.callV 15 [(.lit (.int 4)), (.var 9), (.var 11)]))) (en sv x2 x3 x4 x5 x6 (some gV) x8 (some u) (some v) (some w) (cw R) x13 x14 x15 x16) (st a c (R ++ [.lst ws])) = .ok (.lst true [wC, wC]) (st a c (R ++ [.lst ws])) := by
    simp [ev_compS, compLoop, walkOf, wipe, a27, a28, t, fnAt, hu.1, hv.1, hw.1, e1, e2, lim]
  rw [x_asg, ev_cell, ev_bin, ev_var]
  simp only [List.getElem?_cons_succ, List.getElem?_cons_zero, QE.R.bind_okS]
  rw [hc]
  simp only [ev_var, List.getElem?_cons_succ, List.getElem?_cons_zero, QE.R.bind_okS, ad, QE.R.of_some, newCell, QE.R.calm_okS, bind_name, set_ref, len_st, st_app]
  rfl
theorem s13 (ws : List Val) (hl : ws.length ≤ 100) : execS cx (.asg (.name 12) (.cell (.bin .add (.var 12) (.comp [15] (.name 15) (.it (.tup [(.fn 27), (.fn 28)])) [] (.guard 33 1 tp_law lq_law (.callV 15 [(.lit (.int 4)), (.idx (.var 7) (.lit (.int 1))), (.var 11)])))))) (en sv x2 x3 x4 x5 x6 (some gV) x8 (some u) (some v) (some w) (cw R) x13 x14 x15 x16) (st a c (R ++ [.lst ws])) = .ok (.nx, (en sv x2 x3 x4 x5 x6 (some gV) x8 (some u) (some v) (some w) (cw (R ++ [.lst ws])) x13 x14 x15 x16)) (st a c (R ++ [.lst ws] ++ [.lst (ws ++ [wN, wN])])) := by
  have hu := mk_some u hu
  have hv := off_all v hv
  have hw := size_all w hw
  have t := tb1 a c (R ++ [.lst ws])
  have e1 := f27_size 2 (st a c (R ++ [.lst ws])) (v := .tup [.tup [.tup [.int 0, .int 1]], .tup [.int 2]]) (mk_good _ (by simp [goods])) hw
  have e2 := f28_size 2 (st a c (R ++ [.lst ws])) (v := .tup [.tup [.tup [.int 0, .int 1]], .tup [.int 2]]) (mk_good _ (by simp [goods])) hw
  have it : item (st a c (R ++ [.lst ws])) gV (.int 1) = some (.tup [.tup [.tup [.int 0, .int 1]], .tup [.int 2]]) := rfl
  have ad := add_w a c R ws [wN, wN] (by simp [lim]; omega)
  have hc : evalE cx (.comp [15] (.name 15) (.it (.tup [.fn 27, .fn 28])) [] (.guard 33 1 tp_law lq_law (.callV 15 [(.lit (.int 4)), (.idx (.var 7) (.lit (.int 1))), (.var 11)]))) (en sv x2 x3 x4 x5 x6 (some gV) x8 (some u) (some v) (some w) (cw R) x13 x14 x15 x16) (st a c (R ++ [.lst ws])) = .ok (.lst true [wN, wN]) (st a c (R ++ [.lst ws])) := by
    simp [ev_compS, compLoop, walkOf, wipe, a27, a28, t, fnAt, hu.1, hv.1, hw.1, e1, e2, lim, it]
  rw [x_asg, ev_cell, ev_bin, ev_var]
  simp only [List.getElem?_cons_succ, List.getElem?_cons_zero, QE.R.bind_okS]
  rw [hc]
  simp only [ev_var, List.getElem?_cons_succ, List.getElem?_cons_zero, QE.R.bind_okS, ad, QE.R.of_some, newCell, QE.R.calm_okS, bind_name, set_ref, len_st, st_app]
  rfl
end
end K10
set_option linter.all false
set_option maxRecDepth 10000
namespace K10
open QE
theorem ne_w (a c : Int) (R : Sto) (ws vs : List Val) (f : Bool) (h1 : (Val.lst false ws).chk 64 = true) (h2 : (Val.lst f vs).chk 64 = true) (h3 : (Val.lst false ws).eqv (.lst f vs) = true) : QE.cmp (st a c (R ++ [.lst ws])) .ne (.ref (R.length + 3)) (.lst f vs) = some false := by
  have e : res (st a c (R ++ [.lst ws])) (.ref (R.length + 3)) = .lst false ws := by simp [res]
  have e2 : res (st a c (R ++ [.lst ws])) (.lst f vs) = .lst f vs := rfl
  simp [QE.cmp, eqVal, e, e2, h1, h2, h3, nt]
theorem app_w (a c : Int) (R : Sto) (ws : List Val) (v : Val) (hv : v.settle = v) (h : ws.length < 1000) : QE.append 2 (st a c (R ++ [.lst ws])) (.ref (R.length + 3)) v = .ok .non (st a c (R ++ [.lst (ws ++ [v])])) := by
  have h2 : ws.length < 16777216 := by omega
  have h3 : mayPut 2 (R.length + 3) v = true := by simp [mayPut]
  simp [QE.append, hv, lim, h2, h3]
section
variable (R : Sto) (a c : Int) (sv : Val) (x2 x3 x4 x5 x6 x7 x8 x9 x10 x11 x12 x13 x14 x15 x16 : Option Val)
theorem s14 : execS cx (.if_ (.cmp .ne (.var 12) (.bin .add (.bin .add (.bin .mul (.list [(.tup [(.lit (.str [110, 117, 109, 98, 101, 114]))])]) (.lit (.int 3))) (.bin .mul (.list [(.tup [(.lit (.str [99, 111, 115, 116, 115]))])]) (.lit (.int 2)))) (.bin .mul (.list [(.tup [(.lit (.str [110, 117, 109, 98, 101, 114]))])]) (.lit (.int 2))))) [(.ret (.lit (.bl false)))] []) (en sv x2 x3 x4 x5 x6 x7 x8 x9 x10 x11 (cw R) x13 x14 x15 x16) (st a c (R ++ [.lst [wN, wN, wN, wC, wC, wN, wN]])) = .ok (.nx, (en sv x2 x3 x4 x5 x6 x7 x8 x9 x10 x11 (cw R) x13 x14 x15 x16)) (st a c (R ++ [.lst [wN, wN, wN, wC, wC, wN, wN]])) := by
  have m1 : ∀ S : Sto, QE.bin S .mul (.lst true [.tup [.str [110, 117, 109, 98, 101, 114]]]) (.int 3) = some (.lst true [wN, wN, wN]) := fun S => rfl
  have m2 : ∀ S : Sto, QE.bin S .mul (.lst true [.tup [.str [99, 111, 115, 116, 115]]]) (.int 2) = some (.lst true [wC, wC]) := fun S => rfl
  have m3 : ∀ S : Sto, QE.bin S .mul (.lst true [.tup [.str [110, 117, 109, 98, 101, 114]]]) (.int 2) = some (.lst true [wN, wN]) := fun S => rfl
  have m4 : ∀ S : Sto, QE.bin S .add (.lst true [wN, wN, wN]) (.lst true [wC, wC]) = some (.lst true [wN, wN, wN, wC, wC]) := fun S => rfl
  have m5 : ∀ S : Sto, QE.bin S .add (.lst true [wN, wN, wN, wC, wC]) (.lst true [wN, wN]) = some (.lst true [wN, wN, wN, wC, wC, wN, wN]) := fun S => rfl
  have e := ne_w a c R [wN, wN, wN, wC, wC, wN, wN] [wN, wN, wN, wC, wC, wN, wN] true (by decide) (by decide) (by decide)
  simp [m1, m2, m3, m4, m5, e, lim]
variable {u v : Val} (hu : u ∈ somes1 ++ somes2)
theorem s15 (hu : u ∈ somes1 ++ somes2) (hv : Bad v) : execS cx (.asg (.name 12) (.cell (.list [(.guard 33 1 tp_law lq_law (.call 26 [(.var 5), (.var 9)]))]))) (en sv x2 x3 x4 (some v) x6 x7 x8 (some u) x10 x11 x12 x13 x14 x15 x16) (st a c R) = .ok (.nx, (en sv x2 x3 x4 (some v) x6 x7 x8 (some u) x10 x11 (cw R) x13 x14 x15 x16)) (st a c (R ++ [.lst [wR]])) := by
  have hu := mk_some u hu
  have e := b26 3 (st a c R) hv u
  have t := tb1 a c R
  simp only [x_asg, ev_cell, ev_list, es_cons, es_nil, ev_guard, eX_call, ev_var, ev_lit, List.getElem?_cons_succ, List.getElem?_cons_zero, QE.R.bind_okS, QE.R.calm_okS, hv.1, hu.1, set_non, cxt_call, e, t, if_true, guard_exc, cxt_gx, g_1, wR_st, newCell, bind_name, set_ref, len_st, st_app, QE.R.of_some, lim, List.length_cons, List.length_nil]
  rfl
theorem a48 (env : Env) (S : Sto) : evalE cx (.bin .mul (.tup [(.tup [(.lit (.int 8)), (.trng (.lit (.int 1)) (.lit (.int 17)))])]) (.lit (.int 3))) env S = .ok (encB b48) S := by
  simp [rangeOf, rangeV, QE.bin, mulV, rep, lim, encB, b48, encG, nv]
theorem mt0 (env : Env) (S : Sto) : evalE cx (.tup [(.tup []), (.tup [])]) env S = .ok (.tup [.tup [], .tup []]) S := by simp [lim]
theorem a4 (env : Env) (S : Sto) : evalE cx (.tup [(.tup [(.lit (.int 2)), (.tup [(.lit (.int 1)), (.lit (.int 2)), (.lit (.int 3)), (.lit (.int 4))])])]) env S = .ok (encB b4) S := by
  simp [lim, encB, b4, encG, nv]
theorem s16 (ws : List Val) (hl : ws.length < 1000) : execS cx (.expr (.append (.var 12) (.guard 33 1 tp_law lq_law (.call 26 [(.bin .mul (.tup [(.tup [(.lit (.int 8)), (.trng (.lit (.int 1)) (.lit (.int 17)))])]) (.lit (.int 3))), (.tup [(.tup []), (.tup [])])])))) (en sv x2 x3 x4 (some v) x6 x7 x8 (some u) x10 x11 (cw R) x13 x14 x15 x16) (st a c (R ++ [.lst ws])) = .ok (.nx, (en sv x2 x3 x4 (some v) x6 x7 x8 (some u) x10 x11 (cw R) x13 x14 x15 x16)) (st a c (R ++ [.lst (ws ++ [wR])])) := by
  have e := df48 2 (st a c (R ++ [.lst ws])) (.tup [.tup [], .tup []])
  have t := tb1 a c (R ++ [.lst ws])
  have ap := app_w a c R ws wR rfl hl
  have al := cw_list a c R ws
  rw [x_expr, ev_append, ev_var]
  simp only [List.getElem?_cons_succ, List.getElem?_cons_zero, QE.R.bind_okS, al, QE.R.of_some]
  simp only [ev_guard, eX_call, es_cons, es_nil, a48, a4, mt0, ev_var, List.getElem?_cons_succ, List.getElem?_cons_zero, QE.R.bind_okS, QE.R.calm_okS, encB_st, set_tup, cxt_call, t, if_true, guard_exc, cxt_gx, g_1, g_2, QE.R.of_some, wR_st, wC_st, cxt_base]
  try simp only [ap, QE.R.bind_okS, QE.R.calm_okS, e, guard_exc, cxt_gx, g_1, g_2, QE.R.of_some, wR_st, wC_st]
theorem s17 (hu : u ∈ somes1 ++ somes2) (ws : List Val) (hl : ws.length < 1000) : execS cx (.expr (.append (.var 12) (.guard 33 1 tp_law lq_law (.call 26 [(.tup [(.tup [(.lit (.int 2)), (.tup [(.lit (.int 1)), (.lit (.int 2)), (.lit (.int 3)), (.lit (.int 4))])])]), (.var 9)])))) (en sv x2 x3 x4 (some v) x6 x7 x8 (some u) x10 x11 (cw R) x13 x14 x15 x16) (st a c (R ++ [.lst ws])) = .ok (.nx, (en sv x2 x3 x4 (some v) x6 x7 x8 (some u) x10 x11 (cw R) x13 x14 x15 x16)) (st a c (R ++ [.lst (ws ++ [wC])])) := by
  have hu := mk_some u hu
  have e := df_odd 2 (st a c (R ++ [.lst ws])) hu
  have t := tb1 a c (R ++ [.lst ws])
  have ap := app_w a c R ws wC rfl hl
  have al := cw_list a c R ws
  rw [x_expr, ev_append, ev_var]
  simp only [List.getElem?_cons_succ, List.getElem?_cons_zero, QE.R.bind_okS, al, QE.R.of_some]
  simp only [ev_guard, eX_call, es_cons, es_nil, a48, a4, mt0, ev_var, List.getElem?_cons_succ, List.getElem?_cons_zero, QE.R.bind_okS, QE.R.calm_okS, encB_st, set_tup, cxt_call, t, if_true, hu.1, e, guard_exc, cxt_gx, g_1, g_2, QE.R.of_some, wR_st, wC_st, cxt_base]
  try simp only [ap, QE.R.bind_okS, QE.R.calm_okS, e, guard_exc, cxt_gx, g_1, g_2, QE.R.of_some, wR_st, wC_st]
theorem s18 (ha : 0 ≤ a) (ws : List Val) (hl : ws.length < 1000) : ∃ a' c' : Int, 0 ≤ a' ∧ execS cx (.expr (.append (.var 12) (.guard 33 1 tp_law lq_law (.call 26 [(.tup [(.tup [(.lit (.int 2)), (.tup [(.lit (.int 1)), (.lit (.int 2)), (.lit (.int 3)), (.lit (.int 4))])])]), (.call 31 [(.var 1), (.var 7)])])))) (en sv x2 x3 x4 x5 x6 (some gV) x8 x9 x10 x11 (cw R) x13 x14 x15 x16) (st a c (R ++ [.lst ws])) = .ok (.nx, (en sv x2 x3 x4 x5 x6 (some gV) x8 x9 x10 x11 (cw R) x13 x14 x15 x16)) (st a' c' (R ++ [.lst (ws ++ [wO])])) := by
  obtain ⟨g, a', c', hg, ha', e1⟩ := some_of 7 (R ++ [.lst ws]) a c ha goods (by simp [goods]) (by simp [goods])
  have hs := (mk_good g hg).1
  obtain ⟨r, e2⟩ := df_good 2 (st a' c' (R ++ [.lst ws])) hg
  refine ⟨a', c', ha', ?_⟩
  have t := tb1 a c (R ++ [.lst ws])
  have ap := app_w a' c' R ws wO rfl hl
  have al := cw_list a c R ws
  rw [x_expr, ev_append, ev_var]
  simp only [List.getElem?_cons_succ, List.getElem?_cons_zero, QE.R.bind_okS, al, QE.R.of_some]
  simp only [ev_guard, eX_call, ev_call, es_cons, es_nil, a4, ev_var, List.getElem?_cons_succ, List.getElem?_cons_zero, QE.R.bind_okS, QE.R.calm_okS, encB_st, set_ref, set_lst, cxt_call, t, if_true, e1, hs, e2, guard_ok, cxt_gok, g_ok, QE.R.of_some, wO_st, cxt_base, ap]
theorem s19 : execS cx (.if_ (.cmp .ne (.var 12) (.list [(.tup [(.lit (.str [114, 101, 97, 100, 105, 110, 103, 115]))]), (.tup [(.lit (.str [114, 101, 97, 100, 105, 110, 103, 115]))]), (.tup [(.lit (.str [99, 111, 115, 116, 115]))]), (.tup [])])) [(.ret (.lit (.bl false)))] []) (en sv x2 x3 x4 x5 x6 x7 x8 x9 x10 x11 (cw R) x13 x14 x15 x16) (st a c (R ++ [.lst [wR, wR, wC, wO]])) = .ok (.nx, (en sv x2 x3 x4 x5 x6 x7 x8 x9 x10 x11 (cw R) x13 x14 x15 x16)) (st a c (R ++ [.lst [wR, wR, wC, wO]])) := by
  have e := ne_w a c R [wR, wR, wC, wO] [.tup [.str [114, 101, 97, 100, 105, 110, 103, 115]], .tup [.str [114, 101, 97, 100, 105, 110, 103, 115]], .tup [.str [99, 111, 115, 116, 115]], .tup []] true (by decide) (by decide) (by decide)
  simp [e, lim]
end
def lawBody : List Stm := match d_law.body with
  | _ :: .for_ _ _ b :: _ => b
  | _ => []
def T5 : Sto := [.lst [wN], .lst [wN, wN, wN], .lst [wN, wN, wN, wC, wC], .lst [wN, wN, wN, wC, wC, wN, wN], .lst [wR, wR, wC, wO]]
def IsEn (sv : Val) (e : Env) : Prop := ∃ x2 x3 x4 x5 x6 x7 x8 x9 x10 x11 x12 x13 x14 x15 x16, e = en sv x2 x3 x4 x5 x6 x7 x8 x9 x10 x11 x12 x13 x14 x15 x16
theorem turn (R : Sto) (a c : Int) (ha : 0 ≤ a) (sv : Val) (e : Env) (he : IsEn sv e) :
    ∃ (a' c' : Int) (e' : Env), 0 ≤ a' ∧ IsEn sv e' ∧ execSs cx lawBody e (st a c R) = .ok (.nx, e') (st a' c' (R ++ T5)) := by
  obtain ⟨x2, x3, x4, x5, x6, x7, x8, x9, x10, x11, x12, x13, x14, x15, x16, rfl⟩ := he
  obtain ⟨b, a1, c1, h, h1, e0⟩ := s0 R a c ha sv x2 x3 x4 x5 x6 x7 x8 x9 x10 x11 x12 x13 x14 x15 x16
  obtain ⟨v5, a2, c2, hv5, h2, e2⟩ := s2 R a1 c1 h1 sv x2 x5 x6 x7 x8 x9 x10 x11 x12 x13 x14 x15 x16 h
  obtain ⟨v6, a3, c3, hv6, h3, e3⟩ := s3 R a2 c2 h2 sv x2 (some v5) x6 x7 x8 x9 x10 x11 x12 x13 x14 x15 x16 h
  obtain ⟨a4, c4, h4, e4⟩ := s4 R a3 c3 h3 sv x2 x7 x8 x9 x10 x11 x12 x13 x14 x15 x16 h hv5 hv6
  obtain ⟨u, v, w, a9, c9, hu, hv, hw, h9, e9⟩ := s9 R a4 c4 sv x2 (some (encB b)) (some (nv (M b))) (some v5) (some v6) x9 x10 x11 x12 x13 x14 x15 x16 h4
  have hb5 := bad_all h v5 hv5
  let R1 := R ++ [Ob.lst [wN]]
  let R2 := R1 ++ [Ob.lst [wN, wN, wN]]
  let R3 := R2 ++ [Ob.lst [wN, wN, wN, wC, wC]]
  let R4 := R3 ++ [Ob.lst [wN, wN, wN, wC, wC, wN, wN]]
  obtain ⟨a', c', h18, e18⟩ := s18 R4 a9 c9 sv x2 (some (encB b)) (some (nv (M b))) (some v5) (some v6) (some oV) (some u) (some v) (some w) x13 x14 x15 x16 h9 [wR, wR, wC] (by decide)
  refine ⟨a', c', en sv x2 (some (encB b)) (some (nv (M b))) (some v5) (some v6) (some gV) (some oV) (some u) (some v) (some w) (cw R4) x13 x14 x15 x16, h18, ⟨_, _, _, _, _, _, _, _, _, _, _, _, _, _, _, rfl⟩, ?_⟩
  have hR : R4 ++ [Ob.lst [wR, wR, wC, wO]] = R ++ T5 := by simp [R4, R3, R2, R1, T5]
  rw [← hR]
  refine ss_step e0 ?_
  refine ss_step (s1 R a1 c1 sv x2 x4 x5 x6 x7 x8 x9 x10 x11 x12 x13 x14 x15 x16 h) ?_
  refine ss_step e2 ?_
  refine ss_step e3 ?_
  refine ss_step e4 ?_
  refine ss_step (s5 (st a4 c4 R) sv x2 _ _ _ _ x7 x8 x9 x10 x11 x12 x13 x14 x15 x16) ?_
  refine ss_step (s6 (st a4 c4 R) sv x2 _ _ _ _ _ x8 x9 x10 x11 x12 x13 x14 x15 x16) ?_
  refine ss_step (s7 (st a4 c4 R) sv x2 _ _ _ _ _ x9 x10 x11 x12 x13 x14 x15 x16) ?_
  refine ss_step (s8 (st a4 c4 R) sv x2 _ _ _ _ x9 x10 x11 x12 x13 x14 x15 x16) ?_
  refine ss_step e9 ?_
  refine ss_step (s10 R a9 c9 sv x2 _ _ _ _ _ x12 x13 x14 x15 x16 hu hv hw) ?_
  refine ss_step (s11 R a9 c9 sv x2 _ _ _ _ _ x13 x14 x15 x16 hu hv hw [wN] (by decide)) ?_
  refine ss_step (s12 R1 a9 c9 sv x2 _ _ _ _ _ x13 x14 x15 x16 hu hv hw [wN, wN, wN] (by decide)) ?_
  refine ss_step (s13 R2 a9 c9 sv x2 _ _ _ _ _ x13 x14 x15 x16 hu hv hw [wN, wN, wN, wC, wC] (by decide)) ?_
  refine ss_step (s14 R3 a9 c9 sv x2 _ _ _ _ _ _ _ _ _ x13 x14 x15 x16) ?_
  refine ss_step (s15 R4 a9 c9 sv x2 _ _ _ _ _ _ _ _ x13 x14 x15 x16 hu hb5) ?_
  refine ss_step (s16 R4 a9 c9 sv x2 _ _ _ _ _ _ _ x13 x14 x15 x16 [wR] (by decide)) ?_
  refine ss_step (s17 R4 a9 c9 sv x2 _ _ _ _ _ _ _ x13 x14 x15 x16 hu [wR, wR] (by decide)) ?_
  refine ss_step e18 ?_
  refine ss_step (s19 R4 a' c' sv x2 _ _ _ _ _ _ _ _ _ x13 x14 x15 x16) ?_
  exact xs_nil _ _ _
theorem turns (sv : Val) : ∀ (ts : List Val) (R : Sto) (a c : Int) (e : Env), 0 ≤ a → IsEn sv e →
    ∃ (a' c' : Int) (e' : Env), IsEn sv e' ∧ forLoop (.name 2) (execSs cx lawBody) ts e (st a c R) = .ok (.nx, e') (st a' c' (R ++ QE.rep ts.length T5))
  | [], R, a, c, e, ha, he => ⟨a, c, e, he, by simp [forLoop, QE.rep]⟩
  | t :: ts, R, a, c, e, ha, he => by
    have he2 : IsEn sv (e.set 2 (some t.settle)) := by
      obtain ⟨x2, x3, x4, x5, x6, x7, x8, x9, x10, x11, x12, x13, x14, x15, x16, rfl⟩ := he
      exact ⟨some t.settle, x3, x4, x5, x6, x7, x8, x9, x10, x11, x12, x13, x14, x15, x16, rfl⟩
    obtain ⟨a', c', e', h1, h2, h3⟩ := turn R a c ha sv _ he2
    obtain ⟨a2, c2, e2, h5, h4⟩ := turns sv ts (R ++ T5) a' c' e' h1 h2
    refine ⟨a2, c2, e2, h5, ?_⟩
    simp only [forLoop, bind_name, h3, QE.R.bind_okS, h4]
    rw [List.length_cons, QE.rep, List.append_assoc]
end K10
set_option linter.all false
set_option maxRecDepth 100000
namespace K10
open QE
abbrev R4 : Sto := QE.rep 4 T5
theorem last2 (a c : Int) : callFn prog 9 27 [.int 1, .tup [.tup [], .tup [.int 0]], .int 1] (st a c (R4 ++ [.lst [wO]])) = .ok (.int 1) (st a c (R4 ++ [.lst [wO]])) := by kernel_rfl
theorem last0 (a c : Int) : callFn prog 9 27 [.int 6, .tup [.tup [], .tup []], .int 8] (st a c R4) = .ok (.int 0) (st a c R4) := by kernel_rfl
end K10

set_option linter.all false
set_option maxRecDepth 10000
namespace K10
open QE
/-! ### fewest_lost of marks that say nothing runs through -/
abbrev MK : Val := .tup [.tup [], .tup []]
def ch4 (q : List Nat × Int × Int × Int) : Val := .tup [.str q.1, .int q.2.1, .int q.2.2.1, .int q.2.2.2]
def chs (l h : Int) : List (List Nat × Int × Int × Int) := (if 1 < h - l then [([98, 111, 116, 104], l + 1, h - 1, 0)] else []) ++ [([108, 101, 102, 116], l + 1, h, 1), ([114, 105, 103, 104, 116], l, h - 1, 1)]
theorem chs_len (l h : Int) : (chs l h).length ≤ 3 := by unfold chs; split <;> simp
theorem eq_int (S : Sto) (i : Int) : QE.cmp S .eq (.int i) (.int i) = some true := by simp [QE.cmp, eqVal, res, Val.chk, Val.eqv]
theorem ch (k : Nat) (S : Sto) (l h : Int) : callFn prog (k + 1) 14 [MK, .int l, .int h] S = .ok (.lst true ((chs l h).map ch4)) S := by
  rw [run_fn (d := d_choices) rfl rfl]
  have e1 := fun S : Sto => eq_int S (h - 1)
  have e2 := fun S : Sto => eq_int S l
  have hget : ∀ (S : Sto) (a b : Int), getV S (.dic false false []) (.int a) (.int b) = some (.int b) := fun S a b => by simp [getV, asDic, Val.isKey, Val.flatKey, dGet]
  have hnin : ∀ (S : Sto) (a : Int), QE.cmp S .nin (.int a) (.dic false false []) = some true := fun S a => by simp [QE.cmp, isIn, asList, asDic, hasDic, Val.isKey, Val.flatKey, dGet, nt]
  have hnt : ∀ (S : Sto) (a : Int), QE.cmp S .nin (.int a) (.tup []) = some true := fun S a => by simp [QE.cmp, isIn, hasFlat, Val.flat, nt]
  have hd : ∀ (c : Ctx) (env : Env) (S : Sto) (d a b : E), evalE c (.get d a b) env S = (evalE c d env S).bind fun x S1 => (R.of (asDic S1 x) S1).bind fun _ S1 => (evalE c a env S1).bind fun y S2 => (evalE c b env S2).bind fun z S3 => R.of (getV S3 x y z.settle) S3 := fun c env S d a b => by rw [evalE]
  have has : ∀ S : Sto, asDic S (.dic false false []) = some (false, []) := fun S => rfl
  have hgt : ∀ S : Sto, QE.cmp S .gt (.int (h - l)) (.int 1) = some (decide (1 < h - l)) := fun S => rfl
  have b1 : ∀ (S : Sto) (a b : Int), QE.bin S .sub (.int a) (.int b) = some (.int (a - b)) := fun S a b => rfl
  have b2 : ∀ (S : Sto) (a b : Int), QE.bin S .add (.int a) (.int b) = some (.int (a + b)) := fun S a b => rfl
  have b3 : ∀ S : Sto, QE.bin S .add (.lst true []) (.lst true []) = some (.lst true []) := fun S => rfl
  have b4 : ∀ S : Sto, callBi S .list [.tup []] = some (.lst true []) := fun S => rfl
  have b5 : ∀ S : Sto, callBi S .dict [.lst false []] = some (.dic true false []) := fun S => rfl
  have hap : ∀ (xs : List Val) (q : List Nat × Int × Int × Int), xs.length < 1000 → QE.append S.length (S ++ [.lst xs]) (.ref S.length) (ch4 q) = .ok .non (S ++ [.lst (xs ++ [ch4 q])]) := fun xs q hx => by
    have : xs.length < 16777216 := by omega
    simp [QE.append, mayPut, lim, this, set_last, ch4]
  have hal : ∀ xs : List Val, asList (S ++ [.lst xs]) (.ref S.length) = some xs := fun xs => by simp [asList]
  have hfin : ∀ (xs : List (List Nat × Int × Int × Int)) (env : Env), finish S.length (.ok (.rt (.ref S.length), env) (S ++ [.lst (xs.map ch4)])) = .ok (.lst true (xs.map ch4)) S := fun xs env => fin_cell S _ env (by
    induction xs with
    | nil => rfl
    | cons x xs ih => simp [Val.lowL, ch4, Val.low, ih])
  have hap1 := hap [] ([98, 111, 116, 104], l + 1, h - 1, 0) (by simp)
  have hap2 := hap [] ([108, 101, 102, 116], l + 1, h, 1) (by simp)
  have hap3 := hap [ch4 ([98, 111, 116, 104], l + 1, h - 1, 0)] ([108, 101, 102, 116], l + 1, h, 1) (by simp)
  have hap4 := hap [ch4 ([108, 101, 102, 116], l + 1, h, 1)] ([114, 105, 103, 104, 116], l, h - 1, 1) (by simp)
  have hap5 := hap [ch4 ([98, 111, 116, 104], l + 1, h - 1, 0), ch4 ([108, 101, 102, 116], l + 1, h, 1)] ([114, 105, 103, 104, 116], l, h - 1, 1) (by simp)
  have hf := hfin (chs l h)
  by_cases c1 : 1 < h - l
  · have hc : chs l h = [([98, 111, 116, 104], l + 1, h - 1, 0), ([108, 101, 102, 116], l + 1, h, 1), ([114, 105, 103, 104, 116], l, h - 1, 1)] := by simp [chs, c1]
    rw [hc] at hf ⊢
    simp only [ch4, List.nil_append, List.cons_append, List.map_cons, List.map_nil] at hap1 hap3 hap5 hf ⊢
    simp [d_choices, ev_compS, compLoop, walkOf, wipe, item, itemOf, atI, ixN, lim, b1, b2, b3, b4, b5, newCell, hgt, c1, hd, has, hget, e1, e2, hnt, hnin, hal, hap1, hap3, hap5, hf]
  · have hc : chs l h = [([108, 101, 102, 116], l + 1, h, 1), ([114, 105, 103, 104, 116], l, h - 1, 1)] := by simp [chs, c1]
    rw [hc] at hf ⊢
    simp only [ch4, List.nil_append, List.cons_append, List.map_cons, List.map_nil] at hap2 hap4 hf ⊢
    simp [d_choices, ev_compS, compLoop, walkOf, wipe, item, itemOf, atI, ixN, lim, b1, b2, b3, b4, b5, newCell, hgt, c1, hd, has, hget, e1, e2, hnt, hnin, hal, hap2, hap4, hf]
/-! ### dicts of ints -/
def k2 (a b : Int) : Val := .tup [.int a, .int b]
def GD (D : List (Val × Val)) : Prop := ∀ p ∈ D, ∃ i : Int, p.2 = .int i
theorem gd_get {D : List (Val × Val)} (h : GD D) (k : Val) : dGet k D = none ∨ ∃ i, dGet k D = some (.int i) := by
  induction D with
  | nil => exact .inl rfl
  | cons p D ih =>
    obtain ⟨q, v⟩ := p
    simp only [dGet]
    split
    · obtain ⟨i, e⟩ := h (q, v) (by simp)
      exact .inr ⟨i, by rw [show v = .int i from e]⟩
    · exact ih fun p hp => h p (List.mem_cons_of_mem _ hp)
theorem mem_dPut {D : List (Val × Val)} {k v : Val} {p : Val × Val} (h : p ∈ dPut k v D) : p.2 = v ∨ p ∈ D := by
  unfold dPut at h
  split at h
  · have : ∀ D : List (Val × Val), p ∈ dMap k v D → p.2 = v ∨ p ∈ D := by
      intro D
      induction D with
      | nil => intro h; cases h
      | cons q D ih =>
        obtain ⟨a, b⟩ := q
        intro h
        simp only [dMap] at h
        rcases List.mem_cons.mp h with h | h
        · split at h
          · rw [h]; exact .inl rfl
          · rw [h]; exact .inr (by simp)
        · rcases ih h with h | h
          · exact .inl h
          · exact .inr (List.mem_cons_of_mem _ h)
    exact this D h
  · rcases List.mem_append.mp h with h | h
    · exact .inr h
    · simp at h; rw [h]; exact .inl rfl
theorem len_dPut (D : List (Val × Val)) (k v : Val) : (dPut k v D).length ≤ D.length + 1 := by
  have : ∀ D : List (Val × Val), (dMap k v D).length = D.length := by
    intro D
    induction D with
    | nil => rfl
    | cons q D ih => obtain ⟨a, b⟩ := q; simp [dMap, ih]
  unfold dPut
  split
  · rw [this]; omega
  · simp
theorem gd_put {D : List (Val × Val)} (h : GD D) (k : Val) (i : Int) : GD (dPut k (.int i) D) := fun p hp => by
  rcases mem_dPut hp with e | hp
  · exact ⟨i, e⟩
  · exact h p hp
theorem k2_key (a b : Int) : (k2 a b).isKey true = true := by simp [k2, Val.isKey, Val.flatKey]
theorem lowD_gd {D : List (Val × Val)} (h : GD D) (n : Nat) : Val.lowD n D = true := by
  induction D with
  | nil => rfl
  | cons p D ih =>
    obtain ⟨q, v⟩ := p
    obtain ⟨i, e⟩ := h (q, v) (by simp)
    simp only at e
    subst e
    simp [Val.lowD, Val.low, ih fun p hp => h p (List.mem_cons_of_mem _ hp)]
def look (D : List (Val × Val)) (a b : Int) : Int := match dGet (k2 a b) D with
  | some (.int i) => i
  | _ => 0
theorem chk_ints (d : Nat) : ∀ l : List Int, Val.chkL d (l.map Val.int) = true
  | [] => by cases d <;> rfl
  | n :: l => by
    have := chk_ints d l
    cases d <;> simp [Val.chkL, Val.chk, this] <;> exact this
theorem ne_ints (S : Sto) (l : List Int) : QE.cmp S .ne (.lst false (l.map Val.int)) (.lst true []) = some (decide (l ≠ [])) := by
  simp only [QE.cmp, eqVal, res]
  have h1 : (Val.lst false (l.map Val.int)).chk 64 = true := by simp only [Val.chk]; exact chk_ints 63 l
  simp only [h1]
  cases l <;> simp [Val.chk, Val.chkL, Val.eqv, Val.eqvL, nt]
abbrev fe (n : Nat) (x4 x5 x6 x7 x8 x9 x10 x11 : Option Val) : Env := [some (.int 40), some MK, some (.int 8), some (.ref n), x4, x5, x6, x7, x8, x9, x10, x11]
def lowBody : List Stm := [(.asg (.name 6) (.comp [8, 9, 10, 11] (.tup [(.name 8), (.name 9), (.name 10), (.name 11)]) (.it (.call 14 [(.var 1), (.var 5), (.bin .add (.var 5) (.var 4))])) [(.cmp .in_ (.tup [(.var 9), (.var 10)]) (.var 3))] (.bin .add (.idx (.var 3) (.tup [(.var 9), (.var 10)])) (.var 11)))), (.if_ (.cmp .ne (.var 6) (.list [])) [(.setIx (.var 3) (.tup [(.var 5), (.bin .add (.var 5) (.var 4))]) (.bi .minL [(.var 6)]))] [])]
theorem low_turn (k : Nat) (S : Sto) (D : List (Val × Val)) (hD : GD D) (hl : D.length ≤ 100000) (s l : Int) (x6 x7 x8 x9 x10 x11 : Option Val) : ∃ D' y6, GD D' ∧ D'.length ≤ D.length + 1 ∧
    execSs (cxt prog (k + 1) S.length) lowBody (fe S.length (some (.int s)) (some (.int l)) x6 x7 x8 x9 x10 x11) (S ++ [.dic true D]) = .ok (.nx, fe S.length (some (.int s)) (some (.int l)) y6 x7 x8 x9 x10 x11) (S ++ [.dic true D']) := by
  have hat : (S ++ [Ob.dic true D])[S.length]? = some (.dic true D) := by simp
  have hin : ∀ a b : Int, QE.cmp (S ++ [.dic true D]) .in_ (k2 a b) (.ref S.length) = some (dGet (k2 a b) D).isSome := fun a b => by
    have := k2_key a b
    simp [QE.cmp, isIn, asList, asDic, hasDic, this]
  have hit : ∀ a b : Int, (dGet (k2 a b) D).isSome = true → item (S ++ [.dic true D]) (.ref S.length) (k2 a b) = some (.int (look D a b)) := fun a b h => by
    have hk := k2_key a b
    rcases gd_get hD (k2 a b) with e | ⟨i, e⟩
    · rw [e] at h; cases h
    · simp [item, asList, asDic, itemDic, hk, e, look]
  let p : List Nat × Int × Int × Int → Bool := fun q => (dGet (k2 q.2.1 q.2.2.1) D).isSome
  let g : List Nat × Int × Int × Int → Int := fun q => look D q.2.1 q.2.2.1 + q.2.2.2
  have hc := ev_comp (c := cxt prog (k + 1) S.length) (own := [8, 9, 10, 11]) (tg := .tup [(.name 8), (.name 9), (.name 10), (.name 11)]) (src := .it (.call 14 [(.var 1), (.var 5), (.bin .add (.var 5) (.var 4))])) (ifs := [(.cmp .in_ (.tup [(.var 9), (.var 10)]) (.var 3))]) (elt := .bin .add (.idx (.var 3) (.tup [(.var 9), (.var 10)])) (.var 11))
    (env := fe S.length (some (.int s)) (some (.int l)) x6 x7 x8 x9 x10 x11) (S := S ++ [.dic true D]) (S1 := S ++ [.dic true D]) (S2 := S ++ [.dic true D])
    (xs := (chs l (l + s)).map ch4) (by
      have := ch k (S ++ [.dic true D]) l (l + s)
      simp [QE.bin, addV, this, walkOf])
    (comp_run ch4 p (fun q => .int (g q)) (chs l (l + s)) fun q _ => ⟨[some (.int 40), some MK, some (.int 8), some (.ref S.length), some (.int s), some (.int l), x6, x7, some (.str q.1), some (.int q.2.1), some (.int q.2.2.1), some (.int q.2.2.2)], by simp [wipe, ch4], by
      have := hin q.2.1 q.2.2.1
      simp only [k2] at this
      simp [lim, this, p, k2], fun hp => by
      have := hit q.2.1 q.2.2.1 hp
      simp only [k2] at this
      simp [lim, this, QE.bin, addV, g]⟩)
    (by rw [List.length_map]; exact Nat.le_trans (List.length_filter_le _ _) (Nat.le_trans (chs_len _ _) (by simp [lim])))
  have hcs : ((chs l (l + s)).filter p).map (fun q => (Val.int (g q)).settle) = (((chs l (l + s)).filter p).map g).map Val.int := by rw [List.map_map]; rfl
  rw [hcs] at hc
  have hne := ne_ints (S ++ [.dic true D]) (((chs l (l + s)).filter p).map g)
  generalize ((chs l (l + s)).filter p).map g = cs at hc hne
  cases cs with
  | nil =>
    refine ⟨D, some (.lst false []), hD, by omega, ?_⟩
    simp only [List.map_nil] at hc hne
    simp [lowBody, hc, hne, lim]
  | cons a cs =>
    refine ⟨dPut (k2 l (l + s)) (.int (minI a cs)) D, some (.lst false ((a :: cs).map Val.int)), gd_put hD _ _, len_dPut _ _ _, ?_⟩
    have hmin : callBi (S ++ [.dic true D]) .minL [.lst false ((a :: cs).map Val.int)] = some (.int (minI a cs)) := by
      have : ints? ((a :: cs).map Val.int) = some (a :: cs) := by simpa using ints_map id (a :: cs)
      simp only [callBi, asList, minV, this]
    have hset : QE.setIx S.length (S ++ [.dic true D]) (.ref S.length) (k2 l (l + s)) (.int (minI a cs)) = .ok () (S ++ [.dic true (dPut (k2 l (l + s)) (.int (minI a cs)) D)]) := by
      have h1 : D.length < lim := by simp only [lim]; omega
      simp [QE.setIx, k2_key, h1, mayPut, set_last]
    simp only [k2] at hset
    simp only [List.map_cons] at hc hne hmin
    simp [lowBody, hc, hne, hmin, hset, lim, QE.bin, addV, k2]
theorem low_loop (k : Nat) (S : Sto) (s : Int) : ∀ (ls : List Int) (D : List (Val × Val)) (x5 x6 x7 x8 x9 x10 x11 : Option Val), GD D → D.length + ls.length ≤ 100000 → ∃ D' y5 y6, GD D' ∧ D'.length ≤ D.length + ls.length ∧
    forLoop (.name 5) (execSs (cxt prog (k + 1) S.length) lowBody) (ls.map Val.int) (fe S.length (some (.int s)) x5 x6 x7 x8 x9 x10 x11) (S ++ [.dic true D]) = .ok (.nx, fe S.length (some (.int s)) y5 y6 x7 x8 x9 x10 x11) (S ++ [.dic true D'])
  | [], D, x5, x6, x7, x8, x9, x10, x11, h, hl => ⟨D, x5, x6, h, by simp, rfl⟩
  | l :: ls, D, x5, x6, x7, x8, x9, x10, x11, h, hl => by
    simp only [List.length_cons] at hl
    obtain ⟨D1, y6, h1, h2, h3⟩ := low_turn k S D h (by omega) s l x6 x7 x8 x9 x10 x11
    obtain ⟨D2, y5, y6', g1, g2, g3⟩ := low_loop k S s ls D1 (some (.int l)) y6 x7 x8 x9 x10 x11 h1 (by omega)
    refine ⟨D2, y5, y6', g1, by simp only [List.length_cons]; omega, ?_⟩
    have e : (fe S.length (some (.int s)) x5 x6 x7 x8 x9 x10 x11).set 5 (some (Val.int l).settle) = fe S.length (some (.int s)) (some (.int l)) x6 x7 x8 x9 x10 x11 := rfl
    simp only [List.map_cons, forLoop, bind_name, e, h3, QE.R.bind_okS, g3]
end K10

set_option linter.all false
set_option maxRecDepth 10000
namespace K10
open QE
theorem rng_ints (S : Sto) (a : Int) (n : Nat) (ha : 0 ≤ a) (ha2 : a ≤ 1000) (h : n ≤ 1000) : ∃ ls : List Int, rangeOf S a (a + (n : Nat)) = .ok (ls.map Val.int) S ∧ ls.length = n ∧ ∀ x ∈ ls, a ≤ x ∧ x < a + n := by
  refine ⟨(List.range n).map fun i => a + (i : Nat), ?_, by simp, fun x hx => ?_⟩
  · unfold rangeOf
    rw [if_pos (by omega), show (a + (n : Int) - a).toNat = n by omega, rangeV_map, List.map_map]
    rfl
  · obtain ⟨i, hi, rfl⟩ := List.mem_map.mp hx
    have := List.mem_range.mp hi
    omega
theorem size_loop (k : Nat) (S : Sto) : ∀ (ss : List Int) (D : List (Val × Val)) (x4 x5 x6 x7 x8 x9 x10 x11 : Option Val), (∀ s ∈ ss, 0 ≤ s ∧ s ≤ 40) → GD D → D.length + 41 * ss.length ≤ 100000 → ∃ D' y4 y5 y6, GD D' ∧ D'.length ≤ D.length + 41 * ss.length ∧
    forLoop (.name 4) (execSs (cxt prog (k + 1) S.length) [(.for_ (.name 5) (.rng1 (.bin .add (.bin .sub (.var 0) (.var 4)) (.lit (.int 1)))) lowBody)]) (ss.map Val.int) (fe S.length x4 x5 x6 x7 x8 x9 x10 x11) (S ++ [.dic true D]) = .ok (.nx, fe S.length y4 y5 y6 x7 x8 x9 x10 x11) (S ++ [.dic true D'])
  | [], D, x4, x5, x6, x7, x8, x9, x10, x11, _, h, _ => ⟨D, x4, x5, x6, h, by simp, rfl⟩
  | s :: ss, D, x4, x5, x6, x7, x8, x9, x10, x11, hs, h, hl => by
    simp only [List.length_cons] at hl
    obtain ⟨hs1, hs2⟩ := hs s (by simp)
    obtain ⟨ls, e1, e2, _⟩ := rng_ints (S ++ [.dic true D]) 0 (41 - s).toNat (by omega) (by omega) (by omega)
    obtain ⟨D1, y5, y6, h1, h2, h3⟩ := low_loop k S s ls D x5 x6 x7 x8 x9 x10 x11 h (by omega)
    obtain ⟨D2, y4, y5', y6', g1, g2, g3⟩ := size_loop k S ss D1 (some (.int s)) y5 y6 x7 x8 x9 x10 x11 (fun s hs' => hs s (List.mem_cons_of_mem _ hs')) h1 (by omega)
    refine ⟨D2, y4, y5', y6', g1, by simp only [List.length_cons]; omega, ?_⟩
    have e : (fe S.length x4 x5 x6 x7 x8 x9 x10 x11).set 4 (some (Val.int s).settle) = fe S.length (some (.int s)) x5 x6 x7 x8 x9 x10 x11 := rfl
    have er : rangeOf (S ++ [.dic true D]) 0 (40 - s + 1) = .ok (ls.map Val.int) (S ++ [.dic true D]) := by
      rw [show (40 - s + 1 : Int) = 0 + ((41 - s).toNat : Nat) by omega]
      exact e1
    have hx := x_for (c := cxt prog (k + 1) S.length) (env := fe S.length (some (.int s)) x5 x6 x7 x8 x9 x10 x11) (S := S ++ [.dic true D]) (src := .rng1 (.bin .add (.bin .sub (.var 0) (.var 4)) (.lit (.int 1)))) (xs := ls.map Val.int) (S1 := S ++ [.dic true D]) (by
      simp [QE.bin, addV, subV, er]) h3
    simp only [List.map_cons, forLoop, bind_name, e, xs_cons, xs_nil, hx, QE.R.bind_okS, g3]
theorem dc0 (c : Ctx) (S : Sto) (y0 y1 y2 y3 y4 y5 y6 y8 y9 y10 y11 : Option Val) : ∀ (ls : List Int) (acc : List (Val × Val)), GD acc → ∃ D, GD D ∧ D.length ≤ acc.length + ls.length ∧
    dcompLoop (.name 7) true (evalE c (.tup [(.var 7), (.var 7)])) (evalE c (.lit (.int 0))) [y0, y1, y2, y3, y4, y5, y6, none, y8, y9, y10, y11] (ls.map Val.int) acc S = .ok D S
  | [], acc, h => ⟨acc, h, by simp, rfl⟩
  | l :: ls, acc, h => by
    obtain ⟨D, h1, h2, h3⟩ := dc0 c S y0 y1 y2 y3 y4 y5 y6 y8 y9 y10 y11 ls (dPut (k2 l l) (.int 0) acc) (gd_put h _ _)
    have hl := len_dPut acc (k2 l l) (.int 0)
    refine ⟨D, h1, by simp only [List.length_cons]; omega, ?_⟩
    have hk := k2_key l l
    simp only [k2] at hk h3
    simp only [List.map_cons, dcompLoop, bind_name]
    simp [lim, hk]
    exact h3
theorem fo (k : Nat) (S : Sto) : ∃ D, GD D ∧ D.length ≤ 1000 ∧ callFn prog (k + 2) 15 [.int 40, MK, .int 8] S = .ok (.dic true true D) S := by
  obtain ⟨ls, e1, e2, _⟩ := rng_ints S 0 41 (by omega) (by omega) (by omega)
  obtain ⟨D0, h1, h2, h3⟩ := dc0 (cxt prog (k + 1) S.length) S (some (.int 40)) (some MK) (some (.int 8)) none none none none none none none none ls [] (by intro p hp; cases hp)
  have hd := ev_dcomp (c := cxt prog (k + 1) S.length) (own := [7]) (tg := .name 7) (src := .rng1 (.bin .add (.var 0) (.lit (.int 1)))) (t := true) (k := .tup [(.var 7), (.var 7)]) (v := .lit (.int 0)) (env := [some (.int 40), some MK, some (.int 8), none, none, none, none, none, none, none, none, none]) (S := S) (S1 := S) (S2 := S) (xs := ls.map Val.int) (by
    have : rangeOf S 0 41 = .ok (ls.map Val.int) S := e1
    simp [QE.bin, addV, this]) h3 (by simp [lim, e2])
  obtain ⟨ss, f1, f2, f3⟩ := rng_ints (S ++ [.dic true D0]) 1 16 (by omega) (by omega) (by omega)
  obtain ⟨D, y4, y5, y6, g1, g2, g3⟩ := size_loop k S ss D0 none none none none none none none none (fun s hs => by have := f3 s hs; omega) h1 (by simp at h2; omega)
  have hx := x_for (c := cxt prog (k + 1) S.length) (env := fe S.length none none none none none none none none) (S := S ++ [.dic true D0]) (src := .rng2 (.lit (.int 1)) (.bin .add (.bi .min2 [(.var 0), (.bin .mul (.lit (.int 2)) (.var 2))]) (.lit (.int 1)))) (xs := ss.map Val.int) (S1 := S ++ [.dic true D0]) (by
    have : rangeOf (S ++ [.dic true D0]) 1 17 = .ok (ss.map Val.int) (S ++ [.dic true D0]) := f1
    have sm : small 8 = true := by decide
    simp [QE.bin, addV, mulV, sm2, callBi, this]) g3
  refine ⟨D, g1, by simp at h2; omega, ?_⟩
  rw [run_fn (d := d_folds) rfl rfl]
  have hfin : finish S.length (.ok (.rt (.ref S.length), fe S.length y4 y5 y6 none none none none none) (S ++ [.dic true D])) = .ok (.dic true true D) S := by
    simp [finish, freeze, freeze1, lowD_gd g1]
  suffices hrun : execSs (cxt prog (k + 1) S.length) d_folds.body [some (.int 40), some MK, some (.int 8), none, none, none, none, none, none, none, none, none] S = .ok (.rt (.ref S.length), fe S.length y4 y5 y6 none none none none none) (S ++ [.dic true D]) from
    (congrArg (finish S.length) hrun).trans hfin
  refine ss_step (env' := fe S.length none none none none none none none none) (S' := S ++ [.dic true D0]) (by
    rw [x_asg, ev_cell, hd]
    simp only [QE.R.bind_okS, newCell, QE.R.calm_okS, bind_name, QE.R.of_some, set_ref]
    rfl) ?_
  refine ss_step hx ?_
  simp
end K10

set_option linter.all false
set_option maxRecDepth 10000
namespace K10
open QE
def pv (p : Int × Int) : Val := .tup [.int p.1, .int p.2]
@[simp] theorem pv_st (p : Int × Int) : (pv p).settle = pv p := by exact id rfl
def GF (F : List (Val × Val)) : Prop := ∀ p ∈ F, ∃ q : Int × Int, p.2 = pv q
theorem gf_get {F : List (Val × Val)} (h : GF F) (k : Val) : dGet k F = none ∨ ∃ q, dGet k F = some (pv q) := by
  induction F with
  | nil => exact .inl rfl
  | cons p D ih =>
    obtain ⟨q, v⟩ := p
    simp only [dGet]
    split
    · obtain ⟨i, e⟩ := h (q, v) (by simp)
      exact .inr ⟨i, by rw [show v = pv i from e]⟩
    · exact ih fun p hp => h p (List.mem_cons_of_mem _ hp)
theorem gf_put {F : List (Val × Val)} (h : GF F) (k : Val) (q : Int × Int) : GF (dPut k (pv q) F) := fun p hp => by
  rcases mem_dPut hp with e | hp
  · exact ⟨q, e⟩
  · exact h p hp
theorem lowD_gf {F : List (Val × Val)} (h : GF F) (n : Nat) : Val.lowD n F = true := by
  induction F with
  | nil => rfl
  | cons p D ih =>
    obtain ⟨q, v⟩ := p
    obtain ⟨i, e⟩ := h (q, v) (by simp)
    simp only at e
    subst e
    simp [Val.lowD, Val.low, Val.lowL, pv, ih fun p hp => h p (List.mem_cons_of_mem _ hp)]
theorem chk_pv (d : Nat) : ∀ l : List (Int × Int), Val.chkL (d + 1) (l.map pv) = true
  | [] => rfl
  | p :: l => by simp only [List.map_cons, Val.chkL, chk_pv d l, pv, Val.chk, Val.chkL, Bool.and_self]
theorem pairs_pv : ∀ l : List (Int × Int), pairs? (l.map pv) = some l
  | [] => rfl
  | p :: l => by
    show (match pairs? (l.map pv) with
      | some m => some ((p.1, p.2) :: m)
      | none => none) = _
    rw [pairs_pv l]
theorem min_pv (p : Int × Int) (l : List (Int × Int)) : ∃ q, minV ((p :: l).map pv) = some (pv q) := by
  have h1 : ints? ((p :: l).map pv) = none := by simp [ints?, pv]
  have h2 := pairs_pv (p :: l)
  refine ⟨minP p l, ?_⟩
  simp only [minV, h1, h2]
  rfl
section
variable (k : Nat) (S T : Sto) (D F : List (Val × Val)) (hD : GD D)
abbrev be (D : List (Val × Val)) (n : Nat) (x5 x6 x7 : Option Val) : Env := [some (.int 40), some MK, some (.int 8), some (.dic false true D), some (.ref n), x5, x6, x7]
def B (S T : Sto) (F : List (Val × Val)) : Sto := S ++ (Ob.dic false F :: T)
theorem b_at (o : Ob) : (B S T F ++ [o])[S.length]? = some (.dic false F) := by simp [B]
theorem b_set (F' : List (Val × Val)) (o : Ob) : (B S T F ++ [o]).set S.length (.dic false F') = B S (T ++ [o]) F' := by simp [B]
theorem b_in (o : Ob) (l : Int) : QE.cmp (B S T F ++ [o]) .in_ (.int l) (.ref S.length) = some (dGet (.int l) F).isSome := by
  have := b_at S T F o
  simp only [QE.cmp, isIn, asList, this, asDic, hasDic, Val.isKey, Val.flatKey]
  rfl
theorem b_it (o : Ob) (l : Int) (v : Val) (h : dGet (.int l) F = some v) : item (B S T F ++ [o]) (.ref S.length) (.int l) = some v := by
  have := b_at S T F o
  simp only [item, asList, this, asDic, itemDic, Val.isKey, Val.flatKey, h]
  rfl
theorem d_in (S' : Sto) (a b : Int) : QE.cmp S' .in_ (k2 a b) (.dic false true D) = some (dGet (k2 a b) D).isSome := by
  have := k2_key a b
  simp [QE.cmp, isIn, asList, asDic, hasDic, this]
include hD in
theorem d_it (S' : Sto) (a b : Int) (h : (dGet (k2 a b) D).isSome = true) : item S' (.dic false true D) (k2 a b) = some (.int (look D a b)) := by
  have hk := k2_key a b
  rcases gd_get hD (k2 a b) with e | ⟨i, e⟩
  · rw [e] at h; cases h
  · simp [item, asList, asDic, itemDic, hk, e, look]
def optBody : List Stm := [(.if_ (.and [(.cmp .in_ (.var 7) (.var 4)), (.cmp .in_ (.tup [(.var 7), (.var 5)]) (.var 3)), (.cmp .le (.bin .sub (.bin .add (.idx (.var 3) (.tup [(.var 7), (.var 5)])) (.var 5)) (.var 7)) (.bin .mul (.lit (.int 2)) (.var 2)))]) [(.expr (.append (.var 6) (.tup [(.bin .add (.idx (.idx (.var 4) (.var 7)) (.lit (.int 0))) (.idx (.var 3) (.tup [(.var 7), (.var 5)]))), (.var 7)])))] [])]
include hD in
theorem opt_turn (hF : GF F) (ps : List (Int × Int)) (hp : ps.length ≤ 1000) (h l : Int) : ∃ ps' : List (Int × Int), ps'.length ≤ ps.length + 1 ∧
    execSs (cxt prog k S.length) optBody (be D S.length (some (.int h)) (some (.ref (B S T F).length)) (some (.int l))) (B S T F ++ [.lst (ps.map pv)]) = .ok (.nx, be D S.length (some (.int h)) (some (.ref (B S T F).length)) (some (.int l))) (B S T F ++ [.lst (ps'.map pv)]) := by
  have hi1 := b_in S T F (.lst (ps.map pv)) l
  have hi2 := d_in D (B S T F ++ [.lst (ps.map pv)]) l h
  have hit := d_it D hD (B S T F ++ [.lst (ps.map pv)]) l h
  have hal : asList (B S T F ++ [.lst (ps.map pv)]) (.ref (B S T F).length) = some (ps.map pv) := by simp [asList]
  have sm : small 2 = true := by decide
  rcases gf_get hF (.int l) with e | ⟨q, e⟩
  · rw [e] at hi1
    refine ⟨ps, by omega, ?_⟩
    simp only [Option.isSome] at hi1
    simp [optBody, hi1, -List.length_append]
  · rw [e] at hi1
    simp only [Option.isSome] at hi1
    cases c2 : (dGet (k2 l h) D).isSome with
    | false =>
      rw [c2] at hi2
      refine ⟨ps, by omega, ?_⟩
      simp only [k2] at hi2
      simp [optBody, hi1, hi2, lim, -List.length_append]
    | true =>
      rw [c2] at hi2
      have hit := hit c2
      have hft := b_it S T F (.lst (ps.map pv)) l _ e
      have h0 : item (B S T F ++ [.lst (ps.map pv)]) (pv q) (.int 0) = some (.int q.1) := by simp [pv, item, itemOf, atI, ixN]
      have hap : QE.append S.length (B S T F ++ [.lst (ps.map pv)]) (.ref (B S T F).length) (pv (q.1 + look D l h, l)) = .ok .non (B S T F ++ [.lst ((ps ++ [(q.1 + look D l h, l)]).map pv)]) := by
        have h1 : ps.length < 16777216 := by omega
        have h2 : mayPut S.length (B S T F).length (pv (q.1 + look D l h, l)) = true := by simp [mayPut, B]
        have h3 : (B S T F ++ [Ob.lst (ps.map pv)])[(B S T F).length]? = some (.lst (ps.map pv)) := by simp
        have h4 : (B S T F ++ [Ob.lst (ps.map pv)]).set (B S T F).length (.lst (ps.map pv ++ [pv (q.1 + look D l h, l)])) = B S T F ++ [.lst ((ps ++ [(q.1 + look D l h, l)]).map pv)] := by
          rw [set_last]; simp
        simp only [QE.append, h3, pv_st, h2, List.length_map, lim, h1, decide_true, Bool.and_self, if_true, h4]
      simp only [k2] at hi2 hit
      have hle : ∀ S' : Sto, QE.cmp S' .le (.int (look D l h + h - l)) (.int 16) = some (decide (look D l h + h - l ≤ 16)) := fun S' => rfl
      have b1 : ∀ (S : Sto) (a b : Int), QE.bin S .sub (.int a) (.int b) = some (.int (a - b)) := fun S a b => rfl
      have b2 : ∀ (S : Sto) (a b : Int), QE.bin S .add (.int a) (.int b) = some (.int (a + b)) := fun S a b => rfl
      have b3 : ∀ S : Sto, QE.bin S .mul (.int 2) (.int 8) = some (.int 16) := fun S => by simp [QE.bin, mulV, sm2]
      by_cases c3 : look D l h + h - l ≤ 16
      · refine ⟨ps ++ [(q.1 + look D l h, l)], by simp, ?_⟩
        simp only [pv] at hap h0 hft hal
        simp only [optBody, xs_cons, xs_nil, x_if, ev_and, ea_cons, ea_nil, ev_cmp, ev_var, List.getElem?_cons_succ, List.getElem?_cons_zero, QE.R.bind_okS, hi1, QE.R.of_some, bl_ok, if_true, ev_tup, es_cons, es_nil, set_int, hi2, ev_bin, ev_idx, ev_lit, hit, b1, b2, b3, hle, c3, decide_true, QE.R.calm_okS, x_expr, ev_append, hal, hft, h0, set_tup, cxt_base, hap, lim, List.length_cons, List.length_nil, Nat.reduceAdd, Nat.reduceLeDiff, pv]
      · refine ⟨ps, by omega, ?_⟩
        simp only [optBody, xs_cons, xs_nil, x_if, ev_and, ea_cons, ea_nil, ev_cmp, ev_var, List.getElem?_cons_succ, List.getElem?_cons_zero, QE.R.bind_okS, hi1, QE.R.of_some, bl_ok, if_true, ev_tup, es_cons, es_nil, set_int, hi2, ev_bin, ev_idx, ev_lit, hit, b1, b2, b3, hle, c3, decide_false, QE.R.calm_okS, lim, List.length_cons, List.length_nil, Nat.reduceAdd, Nat.reduceLeDiff, Bool.false_eq_true, if_false]
end
end K10

set_option linter.all false
set_option maxRecDepth 10000
namespace K10
open QE
theorem opt_loop (k : Nat) (S T : Sto) (D F : List (Val × Val)) (hD : GD D) (hF : GF F) (h : Int) : ∀ (ls : List Int) (ps : List (Int × Int)) (x7 : Option Val), ps.length + ls.length ≤ 1000 → ∃ (ps' : List (Int × Int)) (y7 : Option Val), 
    forLoop (.name 7) (execSs (cxt prog k S.length) optBody) (ls.map Val.int) (be D S.length (some (.int h)) (some (.ref (B S T F).length)) x7) (B S T F ++ [.lst (ps.map pv)]) = .ok (.nx, be D S.length (some (.int h)) (some (.ref (B S T F).length)) y7) (B S T F ++ [.lst (ps'.map pv)])
  | [], ps, x7, _ => ⟨ps, x7, rfl⟩
  | l :: ls, ps, x7, hl => by
    simp only [List.length_cons] at hl
    obtain ⟨p1, h1, h2⟩ := opt_turn k S T D F hD hF ps (by omega) h l
    obtain ⟨p2, y7, h3⟩ := opt_loop k S T D F hD hF h ls p1 (some (.int l)) (by omega)
    refine ⟨p2, y7, ?_⟩
    have e : (be D S.length (some (.int h)) (some (.ref (B S T F).length)) x7).set 7 (some (Val.int l).settle) = be D S.length (some (.int h)) (some (.ref (B S T F).length)) (some (.int l)) := rfl
    simp only [List.map_cons, forLoop, bind_name, e, h2, QE.R.bind_okS, h3]
def highBody : List Stm := [(.asg (.name 6) (.cell (.list []))), (.for_ (.name 7) (.rng2 (.bi .max2 [(.lit (.int 0)), (.bin .sub (.var 5) (.bin .mul (.lit (.int 2)) (.var 2)))]) (.var 5)) optBody), (.if_ (.cmp .ne (.var 6) (.list [])) [(.setIx (.var 4) (.var 5) (.bi .minL [(.var 6)]))] [])]
theorem b_app (S T : Sto) (F : List (Val × Val)) (o : Ob) : B S T F ++ [o] = B S (T ++ [o]) F := by simp [B]
theorem high_turn (k : Nat) (S T : Sto) (D F : List (Val × Val)) (hD : GD D) (hF : GF F) (hl : F.length ≤ 10000) (h : Int) (h1 : 1 ≤ h) (h2 : h ≤ 40) (x6 x7 : Option Val) : ∃ (T' : Sto) (F' : List (Val × Val)) (y6 y7 : Option Val), GF F' ∧ F'.length ≤ F.length + 1 ∧
    execSs (cxt prog k S.length) highBody (be D S.length (some (.int h)) x6 x7) (B S T F) = .ok (.nx, be D S.length (some (.int h)) y6 y7) (B S T' F') := by
  let a : Int := if 0 < h - 16 then h - 16 else 0
  have ha : 0 ≤ a ∧ a ≤ h := by simp only [a]; split <;> omega
  obtain ⟨ls, e1, e2, _⟩ := rng_ints (B S T F ++ [.lst []]) a (h - a).toNat ha.1 (by omega) (by omega)
  rw [show a + ((h - a).toNat : Int) = h by omega] at e1
  obtain ⟨ps, y7, e3⟩ := opt_loop k S T D F hD hF h ls [] x7 (by simp; omega)
  have b3 : ∀ S : Sto, QE.bin S .mul (.int 2) (.int 8) = some (.int 16) := fun S => by simp [QE.bin, mulV, sm2]
  have b1 : ∀ S : Sto, QE.bin S .sub (.int h) (.int 16) = some (.int (h - 16)) := fun S => rfl
  have bm : ∀ S : Sto, callBi S .max2 [.int 0, .int (h - 16)] = some (.int a) := fun S => rfl
  have hx := x_for (c := cxt prog k S.length) (env := be D S.length (some (.int h)) (some (.ref (B S T F).length)) x7) (S := B S T F ++ [.lst []]) (src := .rng2 (.bi .max2 [(.lit (.int 0)), (.bin .sub (.var 5) (.bin .mul (.lit (.int 2)) (.var 2)))]) (.var 5)) (xs := ls.map Val.int) (S1 := B S T F ++ [.lst []]) (by
    simp only [sr_2, ev_bi, es_cons, es_nil, ev_lit, ev_bin, ev_var, List.getElem?_cons_succ, List.getElem?_cons_zero, QE.R.bind_okS, b3, b1, QE.R.of_some, set_int, bm, int_ok, e1]) e3
  have hne : QE.cmp (B S T F ++ [.lst (ps.map pv)]) .ne (.ref (B S T F).length) (.lst true []) = some (decide (ps ≠ [])) := by
    have r1 : res (B S T F ++ [.lst (ps.map pv)]) (.ref (B S T F).length) = .lst false (ps.map pv) := by simp [res]
    have r2 : res (B S T F ++ [.lst (ps.map pv)]) (.lst true []) = .lst true [] := rfl
    have c1 : (Val.lst false (ps.map pv)).chk 64 = true := by simp only [Val.chk]; exact chk_pv 62 ps
    simp only [QE.cmp, eqVal, r1, r2, c1]
    cases ps <;> simp [Val.chk, Val.chkL, Val.eqv, Val.eqvL, nt]
  cases ps with
  | nil =>
    refine ⟨T ++ [.lst []], F, some (.ref (B S T F).length), y7, hF, by omega, ?_⟩
    simp only [List.map_nil, ne_eq, not_true_eq_false, decide_false] at hx hne
    rw [← b_app]
    refine ss_step (env' := be D S.length (some (.int h)) (some (.ref (B S T F).length)) x7) (S' := B S T F ++ [.lst []]) (by simp [newCell, lim]) ?_
    refine ss_step hx ?_
    simp [hne, lim]
  | cons p ps =>
    obtain ⟨q, hq⟩ := min_pv p ps
    refine ⟨T ++ [.lst ((p :: ps).map pv)], dPut (.int h) (pv q) F, some (.ref (B S T F).length), y7, gf_put hF _ _, len_dPut _ _ _, ?_⟩
    have hmin : callBi (B S T F ++ [.lst ((p :: ps).map pv)]) .minL [.ref (B S T F).length] = some (pv q) := by
      have : asList (B S T F ++ [.lst ((p :: ps).map pv)]) (.ref (B S T F).length) = some ((p :: ps).map pv) := by simp [asList]
      simp only [callBi, this, hq]
    have hset : QE.setIx S.length (B S T F ++ [.lst ((p :: ps).map pv)]) (.ref S.length) (.int h) (pv q) = .ok () (B S (T ++ [.lst ((p :: ps).map pv)]) (dPut (.int h) (pv q) F)) := by
      have z1 := b_at S T F (.lst ((p :: ps).map pv))
      have z2 := b_set S T F (dPut (.int h) (pv q) F) (.lst ((p :: ps).map pv))
      have z3 : F.length < lim := by simp only [lim]; omega
      have z4 : mayPut S.length S.length (pv q) = true := by simp [mayPut]
      simp only [QE.setIx, z1, Val.isKey, Val.flatKey, z3, decide_true, pv_st, z4, Bool.and_self, if_true, Bool.false_eq_true, if_false, z2]
    have hne : QE.cmp (B S T F ++ [.lst ((p :: ps).map pv)]) .ne (.ref (B S T F).length) (.lst true []) = some true := by rw [hne]; simp
    refine ss_step (env' := be D S.length (some (.int h)) (some (.ref (B S T F).length)) x7) (S' := B S T F ++ [.lst []]) (by simp [newCell, lim]) ?_
    refine ss_step hx ?_
    have l0 : ∀ (env : Env) (S : Sto), evalE (cxt prog k S.length) (.list []) env S = .ok (.lst true []) S := fun env S => by simp [lim]
    simp only [xs_cons, xs_nil, x_if, ev_cmp, ev_var, List.getElem?_cons_succ, List.getElem?_cons_zero, QE.R.bind_okS, ev_list, es_nil, List.length_nil, Nat.zero_le, if_true, hne, QE.R.of_some, QE.R.calm_okS, bl_ok, x_setIx, ev_bi, es_cons, set_ref, hmin, hset, cxt_base]
theorem high_loop (k : Nat) (S : Sto) (D : List (Val × Val)) (hD : GD D) : ∀ (hs : List Int) (T : Sto) (F : List (Val × Val)) (x5 x6 x7 : Option Val), (∀ h ∈ hs, 1 ≤ h ∧ h ≤ 40) → GF F → F.length + hs.length ≤ 10000 → ∃ (T' : Sto) (F' : List (Val × Val)) (y5 y6 y7 : Option Val), GF F' ∧
    forLoop (.name 5) (execSs (cxt prog k S.length) highBody) (hs.map Val.int) (be D S.length x5 x6 x7) (B S T F) = .ok (.nx, be D S.length y5 y6 y7) (B S T' F')
  | [], T, F, x5, x6, x7, _, h, _ => ⟨T, F, x5, x6, x7, h, rfl⟩
  | h :: hs, T, F, x5, x6, x7, hh, hF, hl => by
    simp only [List.length_cons] at hl
    obtain ⟨h1, h2⟩ := hh h (by simp)
    obtain ⟨T1, F1, y6, y7, g1, g2, g3⟩ := high_turn k S T D F hD hF (by omega) h h1 h2 x6 x7
    obtain ⟨T2, F2, z5, z6, z7, w1, w2⟩ := high_loop k S D hD hs T1 F1 (some (.int h)) y6 y7 (fun x hx => hh x (List.mem_cons_of_mem _ hx)) g1 (by omega)
    refine ⟨T2, F2, z5, z6, z7, w1, ?_⟩
    have e : (be D S.length x5 x6 x7).set 5 (some (Val.int h).settle) = be D S.length (some (.int h)) x6 x7 := rfl
    simp only [List.map_cons, forLoop, bind_name, e, g3, QE.R.bind_okS, w2]
theorem bst (k : Nat) (S : Sto) : ∃ F, GF F ∧ callFn prog (k + 3) 16 [.int 40, MK, .int 8] S = .ok (.dic true false F) S := by
  obtain ⟨D, hD, _, hd⟩ := fo k S
  let F0 : List (Val × Val) := [(.int 0, pv (0, 0))]
  have hF0 : GF F0 := fun p hp => by simp [F0] at hp; exact ⟨(0, 0), by rw [hp]⟩
  obtain ⟨hs, f1, f2, f3⟩ := rng_ints (B S [] F0) 1 40 (by omega) (by omega) (by omega)
  obtain ⟨T, F, y5, y6, y7, g1, g2⟩ := high_loop (k + 2) S D hD hs [] F0 none none none (fun h hh => by have := f3 h hh; omega) hF0 (by simp [F0]; omega)
  refine ⟨F, g1, ?_⟩
  have hx := x_for (c := cxt prog (k + 2) S.length) (env := be D S.length none none none) (S := B S [] F0) (src := .rng2 (.lit (.int 1)) (.bin .add (.var 0) (.lit (.int 1)))) (xs := hs.map Val.int) (S1 := B S [] F0) (by
    have : rangeOf (B S [] F0) 1 41 = .ok (hs.map Val.int) (B S [] F0) := f1
    simp [QE.bin, addV, this]) g2
  rw [run_fn (d := d_bests) rfl rfl]
  have hfin : finish S.length (.ok (.rt (.ref S.length), be D S.length y5 y6 y7) (B S T F)) = .ok (.dic true false F) S := by
    simp [finish, freeze, freeze1, lowD_gf g1, B]
  suffices hrun : execSs (cxt prog (k + 2) S.length) d_bests.body [some (.int 40), some MK, some (.int 8), none, none, none, none, none] S = .ok (.rt (.ref S.length), be D S.length y5 y6 y7) (B S T F) from
    (congrArg (finish S.length) hrun).trans hfin
  refine ss_step (env' := [some (.int 40), some MK, some (.int 8), some (.dic false true D), none, none, none, none]) (S' := S) (by simp [hd]) ?_
  refine ss_step (env' := be D S.length none none none) (S' := B S [] F0) (by
    have : ∀ (c : Ctx) (env : Env) (S : Sto), evalE c (.d1 false (.lit (.int 0)) (.tup [(.lit (.int 0)), (.lit (.int 0))])) env S = .ok (.dic true false F0) S := fun c env S => by
      rw [evalE]
      simp [lim, Val.isKey, Val.flatKey, F0, pv]
    rw [x_asg, ev_cell, this]
    simp only [QE.R.bind_okS, newCell, QE.R.calm_okS, bind_name, QE.R.of_some, set_ref]
    rfl) ?_
  refine ss_step hx ?_
  simp
theorem fm40 (k : Nat) (S : Sto) : callFn prog (k + 5) 11 [.int 40, MK] S = .ok (.bl true) S := by rw [run_fn (d := d_fits_marks) rfl rfl]; simp [d_fits_marks, run3, d_is_rising, ev_compS, x_forS, compLoop, forLoop, walkOf, wipe, lim, QE.bin, addV, subV, QE.cmp, ltVal, ints?, lexLtI, leVal, callBi, boolsV, bools?, asList, asSeq, listOf, item, itemOf, atI, ixN, QE.slice, cut, clip, twoOf, zipV, tu_tup, tu_non, tu_lst, fw_int, fw_bl, fw_non, fw_str, fw_tup, newCell, QE.extend, set_last, len_snoc, callMe, intsV, eqVal, res, Val.chk, Val.chkL, Val.eqv, Val.eqvL, fin_b1, List.count_cons]
theorem last1 (S : Sto) : ∃ v, callFn prog 9 27 [.int 40, MK, .int 8] S = .ok v S := by
  obtain ⟨F, g1, g2⟩ := bst 5 S
  have e1 := fw_int 5 40 1 40 S
  have e2 := fw_int 5 8 1 8 S
  have m := fm40 2 S
  have n1 : callFn prog 8 12 [.int 40, MK] S = .ok .non S := by
    rw [run_fn (k := 7) (d := d_need_marks) rfl rfl]
    simp [d_need_marks, e1, m]
  have n2 : callFn prog 8 13 [.int 8] S = .ok .non S := by
    rw [run_fn (k := 7) (d := d_need_most) rfl rfl]
    simp [d_need_most, e2]
  have hin : QE.cmp S .in_ (.int 40) (.dic false false F) = some (dGet (.int 40) F).isSome := by
    simp only [QE.cmp, isIn, asList, asDic, hasDic, Val.isKey, Val.flatKey]
    rfl
  rcases gf_get g1 (.int 40) with e | ⟨q, e⟩
  · rw [e] at hin
    refine ⟨.non, ?_⟩
    rw [run_fn (k := 8) (d := d_fewest_lost) rfl rfl]
    simp only [Option.isSome] at hin
    simp [d_fewest_lost, n1, n2, g2, hin]
  · rw [e] at hin
    have hit : item S (.dic false false F) (.int 40) = some (pv q) := by
      simp only [item, asList, asDic, itemDic, Val.isKey, Val.flatKey, e]
      rfl
    have h0 : item S (pv q) (.int 0) = some (.int q.1) := by simp [pv, item, itemOf, atI, ixN]
    refine ⟨.int q.1, ?_⟩
    rw [run_fn (k := 8) (d := d_fewest_lost) rfl rfl]
    simp only [Option.isSome] at hin
    simp [d_fewest_lost, n1, n2, g2, hin, hit, h0]
end K10

set_option linter.all false
set_option maxRecDepth 10000
namespace K10
open QE
theorem fin0 (n : Nat) (e' : Env) (R' : Sto) : ∃ S0, finish n (.ok (.rt (.bl true), e') R') = .ok (.bl true) S0 := by
  simp only [finish]
  split
  · exact ⟨_, rfl⟩
  · exact ⟨_, by simp [freeze, freeze1, Val.low]; rfl⟩
section
variable (a c : Int) (sv : Val) (x2 x3 x4 x5 x6 x7 x8 x9 x10 x11 x12 x13 x14 x15 x16 : Option Val)
theorem z1 : execS cx (.asg (.name 12) (.cell (.list [(.guard 33 1 tp_law lq_law (.call 27 [(.lit (.int 40)), (.tup [(.tup []), (.tup [])]), (.lit (.int 8))]))]))) (en sv x2 x3 x4 x5 x6 x7 x8 x9 x10 x11 x12 x13 x14 x15 x16) (st a c R4)
    = .ok (.nx, en sv x2 x3 x4 x5 x6 x7 x8 x9 x10 x11 (cw R4) x13 x14 x15 x16) (st a c (R4 ++ [.lst [wO]])) := by
  obtain ⟨w, e⟩ := last1 (st a c R4)
  have t := tb1 a c R4
  simp only [x_asg, ev_cell, ev_list, es_cons, es_nil, ev_guard, eX_call, mt0, ev_lit, QE.R.bind_okS, QE.R.calm_okS, set_int, set_tup, cxt_call, e, t, if_true, guard_ok, cxt_gok, g_ok, wO_st, newCell, bind_name, set_ref, len_st, st_app, QE.R.of_some, lim, List.length_cons, List.length_nil]
  rfl
theorem z2 : execS cx (.expr (.append (.var 12) (.guard 33 1 tp_law lq_law (.call 27 [(.lit (.int 1)), (.tup [(.tup []), (.tup [(.lit (.int 0))])]), (.lit (.int 1))])))) (en sv x2 x3 x4 x5 x6 x7 x8 x9 x10 x11 (cw R4) x13 x14 x15 x16) (st a c (R4 ++ [.lst [wO]]))
    = .ok (.nx, en sv x2 x3 x4 x5 x6 x7 x8 x9 x10 x11 (cw R4) x13 x14 x15 x16) (st a c (R4 ++ [.lst [wO, wO]])) := by
  have e := last2 a c
  have m : ∀ (env : Env) (S : Sto), evalE cx (.tup [(.tup []), (.tup [(.lit (.int 0))])]) env S = .ok (.tup [.tup [], .tup [.int 0]]) S := fun env S => by simp [lim]
  have t := tb1 a c (R4 ++ [.lst [wO]])
  have ap := app_w a c R4 [wO] wO rfl (by decide)
  have al := cw_list a c R4 [wO]
  rw [x_expr, ev_append, ev_var]
  simp only [List.getElem?_cons_succ, List.getElem?_cons_zero, QE.R.bind_okS, al, QE.R.of_some]
  simp only [ev_guard, eX_call, es_cons, es_nil, m, ev_lit, QE.R.bind_okS, QE.R.calm_okS, set_int, set_tup, cxt_call, t, if_true, e, guard_ok, cxt_gok, g_ok, QE.R.of_some, wO_st, cxt_base, ap]
  rfl
theorem z3 : execS cx (.ret (.cmp .eq (.var 12) (.bin .mul (.list [(.tup [])]) (.lit (.int 2))))) (en sv x2 x3 x4 x5 x6 x7 x8 x9 x10 x11 (cw R4) x13 x14 x15 x16) (st a c (R4 ++ [.lst [wO, wO]]))
    = .ok (.rt (.bl true), en sv x2 x3 x4 x5 x6 x7 x8 x9 x10 x11 (cw R4) x13 x14 x15 x16) (st a c (R4 ++ [.lst [wO, wO]])) := by
  have m : ∀ S : Sto, QE.bin S .mul (.lst true [.tup []]) (.int 2) = some (.lst true [wO, wO]) := fun S => rfl
  have e : QE.cmp (st a c (R4 ++ [.lst [wO, wO]])) .eq (.ref (R4.length + 3)) (.lst true [wO, wO]) = some true := by
    have e : res (st a c (R4 ++ [.lst [wO, wO]])) (.ref (R4.length + 3)) = .lst false [wO, wO] := by
      have := cw_at a c R4 [wO, wO]
      simp only [res, this]
    have e2 : res (st a c (R4 ++ [.lst [wO, wO]])) (.lst true [wO, wO]) = .lst true [wO, wO] := rfl
    simp only [QE.cmp, eqVal, e, e2]
    rfl
  rw [x_ret, ev_cmp, ev_var]
  simp only [List.getElem?_cons_succ, List.getElem?_cons_zero, QE.R.bind_okS]
  have l : ∀ (env : Env) (S : Sto), evalE cx (.bin .mul (.list [(.tup [])]) (.lit (.int 2))) env S = .ok (.lst true [wO, wO]) S := fun env S => by simp [m, lim]
  simp only [l, QE.R.bind_okS, e, QE.R.of_some, QE.R.calm_okS]
end
theorem law_ok (v : Val) (ns : List Int) (hl : ns.length ≤ 63) (hv : ∀ S, callBi S .list [v.settle] = some (.lst true (ns.map .int))) (hs : v.settle = v) : ∃ S, callFn prog 10 35 [v] sto0 = .ok (.bl true) S := by
  obtain ⟨a, c, ha, hc⟩ := cu 8 v ns hl hv
  obtain ⟨a', c', e', he, hf⟩ := turns v ((List.range 4).map nv) [] a c (en v none none none none none none none none none none none none none none none) ha ⟨_, _, _, _, _, _, _, _, _, _, _, _, _, _, _, rfl⟩
  obtain ⟨x2, x3, x4, x5, x6, x7, x8, x9, x10, x11, x12, x13, x14, x15, x16, rfl⟩ := he
  obtain ⟨S0, hS⟩ := fin0 2 (en v x2 x3 x4 x5 x6 x7 x8 x9 x10 x11 (cw R4) x13 x14 x15 x16) (st a' c' (R4 ++ [.lst [wO, wO]]))
  refine ⟨S0, ?_⟩
  rw [run_fn (k := 9) (d := d_law) rfl rfl]
  suffices hrun : execSs cx d_law.body [some v, none, none, none, none, none, none, none, none, none, none, none, none, none, none, none, none] sto0 = .ok (.rt (.bl true), en v x2 x3 x4 x5 x6 x7 x8 x9 x10 x11 (cw R4) x13 x14 x15 x16) (st a' c' (R4 ++ [.lst [wO, wO]])) from
    (congrArg (finish 2) hrun).trans hS
  refine ss_step (env' := en v none none none none none none none none none none none none none none none) (S' := st a c []) (by
    simp only [x_asg, ev_cell, ev_call, es_cons, es_nil, ev_var, List.getElem?_cons_zero, QE.R.bind_okS, hs, cxt_call, hc, newCell, QE.R.calm_okS, bind_name, set_ref, QE.R.of_some]
    rfl) ?_
  refine ss_step (x_for (xs := (List.range 4).map nv) (S1 := st a c []) (by
    simp only [sr_1, ev_lit, QE.R.bind_okS, int_ok]
    exact rng_ok _ 4 (by omega)) hf) ?_
  refine ss_step (z1 a' c' v x2 x3 x4 x5 x6 x7 x8 x9 x10 x11 x12 x13 x14 x15 x16) ?_
  refine ss_step (z2 a' c' v x2 x3 x4 x5 x6 x7 x8 x9 x10 x11 x13 x14 x15 x16) ?_
  rw [xs_cons, z3 a' c' v x2 x3 x4 x5 x6 x7 x8 x9 x10 x11 x13 x14 x15 x16]
  rfl
theorem told : ∀ ns : List Int, ns.length ≤ 63 → Told (callFn prog 10 35 [.lst false (QE.intVs ns)] sto0) ∧ Told (callFn prog 10 35 [.kls ns] sto0) := fun ns hl =>
  ⟨law_ok _ ns hl (fun S => by simp [callBi, listOf, asSeq, asList, QE.intVs]) rfl, law_ok _ ns hl (fun S => rfl) rfl⟩
end K10

set_option Elab.async false
set_option linter.all false
set_option maxRecDepth 100000
namespace K10
open PySem PySem.Spec PyProof.Rows L2 QE
/-! ### the text by places -/
def topS (i : Nat) : PySem.Stmt := PySem.Challenge.pw_quires_k10_errors_of_gatherings.main.body.getD i (.Pass ⟨0, 0, 0, 0⟩)
def sN (l : List String) : List PySem.Str := l.map PySem.Str.ofString
def bis : List PySem.Str := sN ["abs", "all", "bool", "dict", "enumerate", "int", "isinstance", "len", "list", "max", "min", "range", "str", "sum", "tuple", "zip"]
def cnames : List PySem.Str := sN ["SHEETS", "GATHERINGS", "LEAVES"]
def kls : List PySem.Str := sN ["StemmaError", "InvalidReadings", "InvalidCosts", "InvalidNumber"]
def ecl : List PySem.Str := sN ["InvalidCosts", "InvalidNumber", "InvalidReadings"]
def n_is_whole : List String := ["value"]
def e_is_whole : Ent := ⟨"is_whole", topS 6, sN n_is_whole, sN (n_is_whole.take 1), none⟩
def n_fits_whole : List String := ["value", "low", "high"]
def e_fits_whole : Ent := ⟨"fits_whole", topS 7, sN n_fits_whole, sN (n_fits_whole.take 3), none⟩
def n_is_tuple_of : List String := ["value", "least", "most"]
def e_is_tuple_of : Ent := ⟨"is_tuple_of", topS 8, sN n_is_tuple_of, sN (n_is_tuple_of.take 3), none⟩
def n_is_rising : List String := ["values", "one", "other"]
def e_is_rising : Ent := ⟨"is_rising", topS 9, sN n_is_rising, sN (n_is_rising.take 1), none⟩
def n_fits_gathering : List String := ["value", "one"]
def e_fits_gathering : Ent := ⟨"fits_gathering", topS 14, sN n_fits_gathering, sN (n_fits_gathering.take 1), none⟩
def n_fits_book : List String := ["value", "one"]
def e_fits_book : Ent := ⟨"fits_book", topS 15, sN n_fits_book, sN (n_fits_book.take 1), none⟩
def n_need_book : List String := ["value"]
def e_need_book : Ent := ⟨"need_book", topS 16, sN n_need_book, sN (n_need_book.take 1), none⟩
def n_need_leaf : List String := ["book", "value"]
def e_need_leaf : Ent := ⟨"need_leaf", topS 17, sN n_need_leaf, sN (n_need_leaf.take 2), none⟩
def n_places_in : List String := ["book", "found", "at", "sheets", "present", "place"]
def e_places_in : Ent := ⟨"places_in", topS 18, sN n_places_in, sN (n_places_in.take 1), none⟩
def n_pairs_in : List String := ["book", "places", "number", "found", "leaf", "at", "place", "mate"]
def e_pairs_in : Ent := ⟨"pairs_in", topS 19, sN n_pairs_in, sN (n_pairs_in.take 1), none⟩
def n_lone_in : List String := ["book", "joined", "one", "other", "leaf"]
def e_lone_in : Ent := ⟨"lone_in", topS 20, sN n_lone_in, sN (n_lone_in.take 1), none⟩
def n_fits_marks : List String := ["many", "value", "named", "pair", "one", "other"]
def e_fits_marks : Ent := ⟨"fits_marks", topS 21, sN n_fits_marks, sN (n_fits_marks.take 2), none⟩
def n_need_marks : List String := ["many", "marks"]
def e_need_marks : Ent := ⟨"need_marks", topS 22, sN n_need_marks, sN (n_need_marks.take 2), none⟩
def n_need_most : List String := ["value"]
def e_need_most : Ent := ⟨"need_most", topS 23, sN n_need_most, sN (n_need_most.take 1), none⟩
def n_choices : List String := ["marks", "low", "high", "mates", "found", "one", "other"]
def e_choices : Ent := ⟨"choices", topS 24, sN n_choices, sN (n_choices.take 3), none⟩
def n_folds : List String := ["many", "marks", "most", "least", "size", "low", "costs", "at", "word", "one", "other", "cost"]
def e_folds : Ent := ⟨"folds", topS 25, sN n_folds, sN (n_folds.take 3), none⟩
def n_bests : List String := ["many", "marks", "most", "least", "found", "high", "options", "low"]
def e_bests : Ent := ⟨"bests", topS 26, sN n_bests, sN (n_bests.take 3), none⟩
def n_gathering_in : List String := ["marks", "least", "low", "high", "sheets", "left", "right", "sheet", "word", "one", "other", "cost"]
def e_gathering_in : Ent := ⟨"gathering_in", topS 27, sN n_gathering_in, sN (n_gathering_in.take 4), none⟩
def n_leaves_many : List String := ["book"]
def e_leaves_many : Ent := ⟨"leaves_many", topS 28, sN n_leaves_many, sN (n_leaves_many.take 1), none⟩
def n_lost_many : List String := ["book", "sheets", "present"]
def e_lost_many : Ent := ⟨"lost_many", topS 29, sN n_lost_many, sN (n_lost_many.take 1), none⟩
def n_place_of : List String := ["book", "leaf"]
def e_place_of : Ent := ⟨"place_of", topS 30, sN n_place_of, sN (n_place_of.take 2), none⟩
def n_mate_of : List String := ["book", "leaf", "found", "one", "other"]
def e_mate_of : Ent := ⟨"mate_of", topS 31, sN n_mate_of, sN (n_mate_of.take 2), none⟩
def n_marks_of : List String := ["book"]
def e_marks_of : Ent := ⟨"marks_of", topS 32, sN n_marks_of, sN (n_marks_of.take 1), none⟩
def n_sides_of : List String := ["book", "leaf", "at", "place", "sheet", "outer", "inner"]
def e_sides_of : Ent := ⟨"sides_of", topS 33, sN n_sides_of, sN (n_sides_of.take 2), none⟩
def n_unlike_openings : List String := ["book", "sides", "leaf", "at"]
def e_unlike_openings : Ent := ⟨"unlike_openings", topS 34, sN n_unlike_openings, sN (n_unlike_openings.take 1), none⟩
def n_are_marks : List String := ["many", "value"]
def e_are_marks : Ent := ⟨"are_marks", topS 35, sN n_are_marks, sN (n_are_marks.take 2), none⟩
def n_does_fit : List String := ["book", "marks", "own", "lone", "pair", "leaf"]
def e_does_fit : Ent := ⟨"does_fit", topS 36, sN n_does_fit, sN (n_does_fit.take 2), none⟩
def n_fewest_lost : List String := ["many", "marks", "most", "found"]
def e_fewest_lost : Ent := ⟨"fewest_lost", topS 37, sN n_fewest_lost, sN (n_fewest_lost.take 3), none⟩
def n_best_book : List String := ["many", "marks", "most", "found", "least", "book", "high", "low"]
def e_best_book : Ent := ⟨"best_book", topS 38, sN n_best_book, sN (n_best_book.take 3), none⟩
def n__law_cup : List String := ["script", "cell"]
def e__law_cup : Ent := ⟨"_law_cup", topS 40, sN n__law_cup, sN (n__law_cup.take 1), none⟩
def n__law_roll : List String := ["cup", "many", "found", "deep"]
def e__law_roll : Ent := ⟨"_law_roll", topS 41, sN n__law_roll, sN (n__law_roll.take 2), none⟩
def n__law_some : List String := ["cup", "things"]
def e__law_some : Ent := ⟨"_law_some", topS 42, sN n__law_some, sN (n__law_some.take 2), none⟩
def n__law_book : List String := ["cup", "most", "sheets", "found", "turn", "many", "present", "place"]
def e__law_book : Ent := ⟨"_law_book", topS 44, sN n__law_book, sN (n__law_book.take 3), none⟩
def n__law_word : List String := ["call", "error", "told", "word", "is_so"]
def e__law_word : Ent := ⟨"_law_word", topS 45, sN n__law_word, sN (n__law_word.take 1), none⟩
def n__law_seven : List String := ["book", "leaf", "found", "call"]
def e__law_seven : Ent := ⟨"_law_seven", topS 46, sN n__law_seven, sN (n__law_seven.take 2), some (280, 278, lq__law_seven)⟩
def n_law : List String := ["script", "cup", "turn", "book", "many", "bad", "leaf", "good", "some", "odd", "off", "size", "words", "sheets", "present", "call", "value"]
def e_law : Ent := ⟨"law", topS 47, sN n_law, sN (n_law.take 1), some (285, 283, lq_law)⟩
def ents : List Ent := [e_is_whole, e_fits_whole, e_is_tuple_of, e_is_rising, e_fits_gathering, e_fits_book, e_need_book, e_need_leaf, e_places_in, e_pairs_in, e_lone_in, e_fits_marks, e_need_marks, e_need_most, e_choices, e_folds, e_bests, e_gathering_in, e_leaves_many, e_lost_many, e_place_of, e_mate_of, e_marks_of, e_sides_of, e_unlike_openings, e_are_marks, e_does_fit, e_fewest_lost, e_best_book, e__law_cup, e__law_roll, e__law_some, e__law_book, e__law_word, e__law_seven, e_law]
def Gs : List Grd := [⟨33, 1, gst__law_word, gsr__law_word, "StemmaError"⟩]
def cf : Cf := { fns := ents.map (·.x), cons := cnames, bis := bis, kls := kls, ecl := ecl, grds := Gs.map (·.g) }
theorem checked : chkAll cf prog.fns ents = true := by decide +kernel
theorem checkedG : chkGs cf ents Gs = true := by decide +kernel
theorem stb : stB prog = true := by decide +kernel
theorem cs_eq : csE ents = [(280, 278), (285, 283)] := rfl
theorem catch__law_word (call : Nat → List Val → Sto → R Val) (b : Nat) : Catch (ctxOf prog call b) 33 5 1 gst__law_word gsr__law_word := by
  refine ⟨by decide, fun k v hk a S => ?_, fun v hv S => ?_⟩
  · match k, hk with
    | 0, hk =>
      cases hk
      simp (config := { decide := true }) [gst__law_word, QE.execSs, QE.execS, QE.evalE, QE.evalEs, QE.evalAnd, QE.evalSrc, QE.compLoop, QE.bindT, QE.bindTs, QE.subOf, QE.suiteCtx, QE.restCtx, QE.ctxOf, QE.bare, QE.wipe, QE.zipV, QE.listsOf, QE.R.bind, QE.R.calm, QE.R.of, QE.asBl, QE.callBi, QE.tupleOf, QE.asSeq, QE.asList, QE.lim, QE.Val.settle]
    | 1, hk =>
      cases hk
      simp (config := { decide := true }) [gst__law_word, QE.execSs, QE.execS, QE.evalE, QE.evalEs, QE.evalAnd, QE.evalSrc, QE.compLoop, QE.bindT, QE.bindTs, QE.subOf, QE.suiteCtx, QE.restCtx, QE.ctxOf, QE.bare, QE.wipe, QE.zipV, QE.listsOf, QE.R.bind, QE.R.calm, QE.R.of, QE.asBl, QE.callBi, QE.tupleOf, QE.asSeq, QE.asList, QE.lim, QE.Val.settle]
    | 2, hk =>
      cases hk
      simp (config := { decide := true }) [gst__law_word, QE.execSs, QE.execS, QE.evalE, QE.evalEs, QE.evalAnd, QE.evalSrc, QE.compLoop, QE.bindT, QE.bindTs, QE.subOf, QE.suiteCtx, QE.restCtx, QE.ctxOf, QE.bare, QE.wipe, QE.zipV, QE.listsOf, QE.R.bind, QE.R.calm, QE.R.of, QE.asBl, QE.callBi, QE.tupleOf, QE.asSeq, QE.asList, QE.lim, QE.Val.settle]
    | 3, hk =>
      cases hk
      simp (config := { decide := true }) [gst__law_word, QE.execSs, QE.execS, QE.evalE, QE.evalEs, QE.evalAnd, QE.evalSrc, QE.compLoop, QE.bindT, QE.bindTs, QE.subOf, QE.suiteCtx, QE.restCtx, QE.ctxOf, QE.bare, QE.wipe, QE.zipV, QE.listsOf, QE.R.bind, QE.R.calm, QE.R.of, QE.asBl, QE.callBi, QE.tupleOf, QE.asSeq, QE.asList, QE.lim, QE.Val.settle]
    | k + 4, hk => cases hk
  · cases hv
    simp (config := { decide := true }) [gsr__law_word, QE.execSs, QE.execS, QE.evalE, QE.evalEs, QE.evalAnd, QE.evalSrc, QE.compLoop, QE.bindT, QE.bindTs, QE.subOf, QE.suiteCtx, QE.restCtx, QE.ctxOf, QE.bare, QE.wipe, QE.zipV, QE.listsOf, QE.R.bind, QE.R.calm, QE.R.of, QE.asBl, QE.callBi, QE.tupleOf, QE.asSeq, QE.asList, QE.lim, QE.Val.settle]
theorem b_is_whole : ∀ (kV doc pm : Value) (an : Option Addr) (cdv ct : Value) (us : List Value), us.length = e_is_whole.ps.length → bindArgs (PySem.W.fnOf e_is_whole.x e_is_whole.x (defArgs e_is_whole.st) (defBody e_is_whole.st) (defScope e_is_whole.st) .none kV doc pm an cdv ct) ⟨us, []⟩ = pure (e_is_whole.ps.zip us) := fun _ _ _ _ _ _ us hl => match us, hl with | [_], _ => rfl
theorem b_fits_whole : ∀ (kV doc pm : Value) (an : Option Addr) (cdv ct : Value) (us : List Value), us.length = e_fits_whole.ps.length → bindArgs (PySem.W.fnOf e_fits_whole.x e_fits_whole.x (defArgs e_fits_whole.st) (defBody e_fits_whole.st) (defScope e_fits_whole.st) .none kV doc pm an cdv ct) ⟨us, []⟩ = pure (e_fits_whole.ps.zip us) := fun _ _ _ _ _ _ us hl => match us, hl with | [_, _, _], _ => rfl
theorem b_is_tuple_of : ∀ (kV doc pm : Value) (an : Option Addr) (cdv ct : Value) (us : List Value), us.length = e_is_tuple_of.ps.length → bindArgs (PySem.W.fnOf e_is_tuple_of.x e_is_tuple_of.x (defArgs e_is_tuple_of.st) (defBody e_is_tuple_of.st) (defScope e_is_tuple_of.st) .none kV doc pm an cdv ct) ⟨us, []⟩ = pure (e_is_tuple_of.ps.zip us) := fun _ _ _ _ _ _ us hl => match us, hl with | [_, _, _], _ => rfl
theorem b_is_rising : ∀ (kV doc pm : Value) (an : Option Addr) (cdv ct : Value) (us : List Value), us.length = e_is_rising.ps.length → bindArgs (PySem.W.fnOf e_is_rising.x e_is_rising.x (defArgs e_is_rising.st) (defBody e_is_rising.st) (defScope e_is_rising.st) .none kV doc pm an cdv ct) ⟨us, []⟩ = pure (e_is_rising.ps.zip us) := fun _ _ _ _ _ _ us hl => match us, hl with | [_], _ => rfl
theorem b_fits_gathering : ∀ (kV doc pm : Value) (an : Option Addr) (cdv ct : Value) (us : List Value), us.length = e_fits_gathering.ps.length → bindArgs (PySem.W.fnOf e_fits_gathering.x e_fits_gathering.x (defArgs e_fits_gathering.st) (defBody e_fits_gathering.st) (defScope e_fits_gathering.st) .none kV doc pm an cdv ct) ⟨us, []⟩ = pure (e_fits_gathering.ps.zip us) := fun _ _ _ _ _ _ us hl => match us, hl with | [_], _ => rfl
theorem b_fits_book : ∀ (kV doc pm : Value) (an : Option Addr) (cdv ct : Value) (us : List Value), us.length = e_fits_book.ps.length → bindArgs (PySem.W.fnOf e_fits_book.x e_fits_book.x (defArgs e_fits_book.st) (defBody e_fits_book.st) (defScope e_fits_book.st) .none kV doc pm an cdv ct) ⟨us, []⟩ = pure (e_fits_book.ps.zip us) := fun _ _ _ _ _ _ us hl => match us, hl with | [_], _ => rfl
theorem b_need_book : ∀ (kV doc pm : Value) (an : Option Addr) (cdv ct : Value) (us : List Value), us.length = e_need_book.ps.length → bindArgs (PySem.W.fnOf e_need_book.x e_need_book.x (defArgs e_need_book.st) (defBody e_need_book.st) (defScope e_need_book.st) .none kV doc pm an cdv ct) ⟨us, []⟩ = pure (e_need_book.ps.zip us) := fun _ _ _ _ _ _ us hl => match us, hl with | [_], _ => rfl
theorem b_need_leaf : ∀ (kV doc pm : Value) (an : Option Addr) (cdv ct : Value) (us : List Value), us.length = e_need_leaf.ps.length → bindArgs (PySem.W.fnOf e_need_leaf.x e_need_leaf.x (defArgs e_need_leaf.st) (defBody e_need_leaf.st) (defScope e_need_leaf.st) .none kV doc pm an cdv ct) ⟨us, []⟩ = pure (e_need_leaf.ps.zip us) := fun _ _ _ _ _ _ us hl => match us, hl with | [_, _], _ => rfl
theorem b_places_in : ∀ (kV doc pm : Value) (an : Option Addr) (cdv ct : Value) (us : List Value), us.length = e_places_in.ps.length → bindArgs (PySem.W.fnOf e_places_in.x e_places_in.x (defArgs e_places_in.st) (defBody e_places_in.st) (defScope e_places_in.st) .none kV doc pm an cdv ct) ⟨us, []⟩ = pure (e_places_in.ps.zip us) := fun _ _ _ _ _ _ us hl => match us, hl with | [_], _ => rfl
theorem b_pairs_in : ∀ (kV doc pm : Value) (an : Option Addr) (cdv ct : Value) (us : List Value), us.length = e_pairs_in.ps.length → bindArgs (PySem.W.fnOf e_pairs_in.x e_pairs_in.x (defArgs e_pairs_in.st) (defBody e_pairs_in.st) (defScope e_pairs_in.st) .none kV doc pm an cdv ct) ⟨us, []⟩ = pure (e_pairs_in.ps.zip us) := fun _ _ _ _ _ _ us hl => match us, hl with | [_], _ => rfl
theorem b_lone_in : ∀ (kV doc pm : Value) (an : Option Addr) (cdv ct : Value) (us : List Value), us.length = e_lone_in.ps.length → bindArgs (PySem.W.fnOf e_lone_in.x e_lone_in.x (defArgs e_lone_in.st) (defBody e_lone_in.st) (defScope e_lone_in.st) .none kV doc pm an cdv ct) ⟨us, []⟩ = pure (e_lone_in.ps.zip us) := fun _ _ _ _ _ _ us hl => match us, hl with | [_], _ => rfl
theorem b_fits_marks : ∀ (kV doc pm : Value) (an : Option Addr) (cdv ct : Value) (us : List Value), us.length = e_fits_marks.ps.length → bindArgs (PySem.W.fnOf e_fits_marks.x e_fits_marks.x (defArgs e_fits_marks.st) (defBody e_fits_marks.st) (defScope e_fits_marks.st) .none kV doc pm an cdv ct) ⟨us, []⟩ = pure (e_fits_marks.ps.zip us) := fun _ _ _ _ _ _ us hl => match us, hl with | [_, _], _ => rfl
theorem b_need_marks : ∀ (kV doc pm : Value) (an : Option Addr) (cdv ct : Value) (us : List Value), us.length = e_need_marks.ps.length → bindArgs (PySem.W.fnOf e_need_marks.x e_need_marks.x (defArgs e_need_marks.st) (defBody e_need_marks.st) (defScope e_need_marks.st) .none kV doc pm an cdv ct) ⟨us, []⟩ = pure (e_need_marks.ps.zip us) := fun _ _ _ _ _ _ us hl => match us, hl with | [_, _], _ => rfl
theorem b_need_most : ∀ (kV doc pm : Value) (an : Option Addr) (cdv ct : Value) (us : List Value), us.length = e_need_most.ps.length → bindArgs (PySem.W.fnOf e_need_most.x e_need_most.x (defArgs e_need_most.st) (defBody e_need_most.st) (defScope e_need_most.st) .none kV doc pm an cdv ct) ⟨us, []⟩ = pure (e_need_most.ps.zip us) := fun _ _ _ _ _ _ us hl => match us, hl with | [_], _ => rfl
theorem b_choices : ∀ (kV doc pm : Value) (an : Option Addr) (cdv ct : Value) (us : List Value), us.length = e_choices.ps.length → bindArgs (PySem.W.fnOf e_choices.x e_choices.x (defArgs e_choices.st) (defBody e_choices.st) (defScope e_choices.st) .none kV doc pm an cdv ct) ⟨us, []⟩ = pure (e_choices.ps.zip us) := fun _ _ _ _ _ _ us hl => match us, hl with | [_, _, _], _ => rfl
theorem b_folds : ∀ (kV doc pm : Value) (an : Option Addr) (cdv ct : Value) (us : List Value), us.length = e_folds.ps.length → bindArgs (PySem.W.fnOf e_folds.x e_folds.x (defArgs e_folds.st) (defBody e_folds.st) (defScope e_folds.st) .none kV doc pm an cdv ct) ⟨us, []⟩ = pure (e_folds.ps.zip us) := fun _ _ _ _ _ _ us hl => match us, hl with | [_, _, _], _ => rfl
theorem b_bests : ∀ (kV doc pm : Value) (an : Option Addr) (cdv ct : Value) (us : List Value), us.length = e_bests.ps.length → bindArgs (PySem.W.fnOf e_bests.x e_bests.x (defArgs e_bests.st) (defBody e_bests.st) (defScope e_bests.st) .none kV doc pm an cdv ct) ⟨us, []⟩ = pure (e_bests.ps.zip us) := fun _ _ _ _ _ _ us hl => match us, hl with | [_, _, _], _ => rfl
theorem b_gathering_in : ∀ (kV doc pm : Value) (an : Option Addr) (cdv ct : Value) (us : List Value), us.length = e_gathering_in.ps.length → bindArgs (PySem.W.fnOf e_gathering_in.x e_gathering_in.x (defArgs e_gathering_in.st) (defBody e_gathering_in.st) (defScope e_gathering_in.st) .none kV doc pm an cdv ct) ⟨us, []⟩ = pure (e_gathering_in.ps.zip us) := fun _ _ _ _ _ _ us hl => match us, hl with | [_, _, _, _], _ => rfl
theorem b_leaves_many : ∀ (kV doc pm : Value) (an : Option Addr) (cdv ct : Value) (us : List Value), us.length = e_leaves_many.ps.length → bindArgs (PySem.W.fnOf e_leaves_many.x e_leaves_many.x (defArgs e_leaves_many.st) (defBody e_leaves_many.st) (defScope e_leaves_many.st) .none kV doc pm an cdv ct) ⟨us, []⟩ = pure (e_leaves_many.ps.zip us) := fun _ _ _ _ _ _ us hl => match us, hl with | [_], _ => rfl
theorem b_lost_many : ∀ (kV doc pm : Value) (an : Option Addr) (cdv ct : Value) (us : List Value), us.length = e_lost_many.ps.length → bindArgs (PySem.W.fnOf e_lost_many.x e_lost_many.x (defArgs e_lost_many.st) (defBody e_lost_many.st) (defScope e_lost_many.st) .none kV doc pm an cdv ct) ⟨us, []⟩ = pure (e_lost_many.ps.zip us) := fun _ _ _ _ _ _ us hl => match us, hl with | [_], _ => rfl
theorem b_place_of : ∀ (kV doc pm : Value) (an : Option Addr) (cdv ct : Value) (us : List Value), us.length = e_place_of.ps.length → bindArgs (PySem.W.fnOf e_place_of.x e_place_of.x (defArgs e_place_of.st) (defBody e_place_of.st) (defScope e_place_of.st) .none kV doc pm an cdv ct) ⟨us, []⟩ = pure (e_place_of.ps.zip us) := fun _ _ _ _ _ _ us hl => match us, hl with | [_, _], _ => rfl
theorem b_mate_of : ∀ (kV doc pm : Value) (an : Option Addr) (cdv ct : Value) (us : List Value), us.length = e_mate_of.ps.length → bindArgs (PySem.W.fnOf e_mate_of.x e_mate_of.x (defArgs e_mate_of.st) (defBody e_mate_of.st) (defScope e_mate_of.st) .none kV doc pm an cdv ct) ⟨us, []⟩ = pure (e_mate_of.ps.zip us) := fun _ _ _ _ _ _ us hl => match us, hl with | [_, _], _ => rfl
theorem b_marks_of : ∀ (kV doc pm : Value) (an : Option Addr) (cdv ct : Value) (us : List Value), us.length = e_marks_of.ps.length → bindArgs (PySem.W.fnOf e_marks_of.x e_marks_of.x (defArgs e_marks_of.st) (defBody e_marks_of.st) (defScope e_marks_of.st) .none kV doc pm an cdv ct) ⟨us, []⟩ = pure (e_marks_of.ps.zip us) := fun _ _ _ _ _ _ us hl => match us, hl with | [_], _ => rfl
theorem b_sides_of : ∀ (kV doc pm : Value) (an : Option Addr) (cdv ct : Value) (us : List Value), us.length = e_sides_of.ps.length → bindArgs (PySem.W.fnOf e_sides_of.x e_sides_of.x (defArgs e_sides_of.st) (defBody e_sides_of.st) (defScope e_sides_of.st) .none kV doc pm an cdv ct) ⟨us, []⟩ = pure (e_sides_of.ps.zip us) := fun _ _ _ _ _ _ us hl => match us, hl with | [_, _], _ => rfl
theorem b_unlike_openings : ∀ (kV doc pm : Value) (an : Option Addr) (cdv ct : Value) (us : List Value), us.length = e_unlike_openings.ps.length → bindArgs (PySem.W.fnOf e_unlike_openings.x e_unlike_openings.x (defArgs e_unlike_openings.st) (defBody e_unlike_openings.st) (defScope e_unlike_openings.st) .none kV doc pm an cdv ct) ⟨us, []⟩ = pure (e_unlike_openings.ps.zip us) := fun _ _ _ _ _ _ us hl => match us, hl with | [_], _ => rfl
theorem b_are_marks : ∀ (kV doc pm : Value) (an : Option Addr) (cdv ct : Value) (us : List Value), us.length = e_are_marks.ps.length → bindArgs (PySem.W.fnOf e_are_marks.x e_are_marks.x (defArgs e_are_marks.st) (defBody e_are_marks.st) (defScope e_are_marks.st) .none kV doc pm an cdv ct) ⟨us, []⟩ = pure (e_are_marks.ps.zip us) := fun _ _ _ _ _ _ us hl => match us, hl with | [_, _], _ => rfl
theorem b_does_fit : ∀ (kV doc pm : Value) (an : Option Addr) (cdv ct : Value) (us : List Value), us.length = e_does_fit.ps.length → bindArgs (PySem.W.fnOf e_does_fit.x e_does_fit.x (defArgs e_does_fit.st) (defBody e_does_fit.st) (defScope e_does_fit.st) .none kV doc pm an cdv ct) ⟨us, []⟩ = pure (e_does_fit.ps.zip us) := fun _ _ _ _ _ _ us hl => match us, hl with | [_, _], _ => rfl
theorem b_fewest_lost : ∀ (kV doc pm : Value) (an : Option Addr) (cdv ct : Value) (us : List Value), us.length = e_fewest_lost.ps.length → bindArgs (PySem.W.fnOf e_fewest_lost.x e_fewest_lost.x (defArgs e_fewest_lost.st) (defBody e_fewest_lost.st) (defScope e_fewest_lost.st) .none kV doc pm an cdv ct) ⟨us, []⟩ = pure (e_fewest_lost.ps.zip us) := fun _ _ _ _ _ _ us hl => match us, hl with | [_, _, _], _ => rfl
theorem b_best_book : ∀ (kV doc pm : Value) (an : Option Addr) (cdv ct : Value) (us : List Value), us.length = e_best_book.ps.length → bindArgs (PySem.W.fnOf e_best_book.x e_best_book.x (defArgs e_best_book.st) (defBody e_best_book.st) (defScope e_best_book.st) .none kV doc pm an cdv ct) ⟨us, []⟩ = pure (e_best_book.ps.zip us) := fun _ _ _ _ _ _ us hl => match us, hl with | [_, _, _], _ => rfl
theorem b__law_cup : ∀ (kV doc pm : Value) (an : Option Addr) (cdv ct : Value) (us : List Value), us.length = e__law_cup.ps.length → bindArgs (PySem.W.fnOf e__law_cup.x e__law_cup.x (defArgs e__law_cup.st) (defBody e__law_cup.st) (defScope e__law_cup.st) .none kV doc pm an cdv ct) ⟨us, []⟩ = pure (e__law_cup.ps.zip us) := fun _ _ _ _ _ _ us hl => match us, hl with | [_], _ => rfl
theorem b__law_roll : ∀ (kV doc pm : Value) (an : Option Addr) (cdv ct : Value) (us : List Value), us.length = e__law_roll.ps.length → bindArgs (PySem.W.fnOf e__law_roll.x e__law_roll.x (defArgs e__law_roll.st) (defBody e__law_roll.st) (defScope e__law_roll.st) .none kV doc pm an cdv ct) ⟨us, []⟩ = pure (e__law_roll.ps.zip us) := fun _ _ _ _ _ _ us hl => match us, hl with | [_, _], _ => rfl
theorem b__law_some : ∀ (kV doc pm : Value) (an : Option Addr) (cdv ct : Value) (us : List Value), us.length = e__law_some.ps.length → bindArgs (PySem.W.fnOf e__law_some.x e__law_some.x (defArgs e__law_some.st) (defBody e__law_some.st) (defScope e__law_some.st) .none kV doc pm an cdv ct) ⟨us, []⟩ = pure (e__law_some.ps.zip us) := fun _ _ _ _ _ _ us hl => match us, hl with | [_, _], _ => rfl
theorem b__law_book : ∀ (kV doc pm : Value) (an : Option Addr) (cdv ct : Value) (us : List Value), us.length = e__law_book.ps.length → bindArgs (PySem.W.fnOf e__law_book.x e__law_book.x (defArgs e__law_book.st) (defBody e__law_book.st) (defScope e__law_book.st) .none kV doc pm an cdv ct) ⟨us, []⟩ = pure (e__law_book.ps.zip us) := fun _ _ _ _ _ _ us hl => match us, hl with | [_, _, _], _ => rfl
theorem b__law_word : ∀ (kV doc pm : Value) (an : Option Addr) (cdv ct : Value) (us : List Value), us.length = e__law_word.ps.length → bindArgs (PySem.W.fnOf e__law_word.x e__law_word.x (defArgs e__law_word.st) (defBody e__law_word.st) (defScope e__law_word.st) .none kV doc pm an cdv ct) ⟨us, []⟩ = pure (e__law_word.ps.zip us) := fun _ _ _ _ _ _ us hl => match us, hl with | [_], _ => rfl
theorem b__law_seven : ∀ (kV doc pm : Value) (an : Option Addr) (cdv ct : Value) (us : List Value), us.length = e__law_seven.ps.length → bindArgs (PySem.W.fnOf e__law_seven.x e__law_seven.x (defArgs e__law_seven.st) (defBody e__law_seven.st) (defScope e__law_seven.st) .none kV doc pm an cdv ct) ⟨us, []⟩ = pure (e__law_seven.ps.zip us) := fun _ _ _ _ _ _ us hl => match us, hl with | [_, _], _ => rfl
theorem b_law : ∀ (kV doc pm : Value) (an : Option Addr) (cdv ct : Value) (us : List Value), us.length = e_law.ps.length → bindArgs (PySem.W.fnOf e_law.x e_law.x (defArgs e_law.st) (defBody e_law.st) (defScope e_law.st) .none kV doc pm an cdv ct) ⟨us, []⟩ = pure (e_law.ps.zip us) := fun _ _ _ _ _ _ us hl => match us, hl with | [_], _ => rfl
end K10
open PySem PySem.W PyProof.Rows
set_option maxHeartbeats 0 in
theorem PySem.Challenge.cw_quires_k10_errors_of_gatherings_holds : PySem.Challenge.rw_quires_k10_errors_of_gatherings.Holds := by
  w_on; o_law; k_head; (case hw => w_witness2)
  k_fill
  refine LamX.walk_ofTs (l := PySem.Challenge.rw_quires_k10_errors_of_gatherings) (n := 63) (k := 30) (x := "script") (CX := fun w => L2N.CX PySem.Challenge.rw_quires_k10_errors_of_gatherings.prog w) rfl (by decide) rfl ⟨rfl, by decide, by decide⟩ (fun w h Y => PySem.W.km_in_of Y) ?F (fun _ _ _ _ _ z => ?Z)
  case Z => exact QE.cx_no z
  case F =>
    intro w mg fa h Y KX G hmg
    have KT := PySem.W.km_tabs_of Y
    have CF0 := QE.clsF_at (C := 24) KX (by k_exc) (by k_is) (by k_is) (by k_is) (by k_is) (by k_is) (by k_is) (by k_is) (by k_is) (by k_is)
    have CF1 := QE.clsF_at (C := 37) KX (by k_exc) (by k_is) (by k_is) (by k_is) (by k_is) (by k_is) (by k_is) (by k_is) (by k_is) (by k_is)
    have CF2 := QE.clsF_at (C := 49) KX (by k_exc) (by k_is) (by k_is) (by k_is) (by k_is) (by k_is) (by k_is) (by k_is) (by k_is) (by k_is)
    have CF3 := QE.clsF_at (C := 61) KX (by k_exc) (by k_is) (by k_is) (by k_is) (by k_is) (by k_is) (by k_is) (by k_is) (by k_is) (by k_is)
    refine' QE.fin_all (PG := K10.prog) (es := K10.ents) (Gs := K10.Gs) (cf := K10.cf) (k := 10) (f := 35) (e := K10.e_law) (st0 := K10.sto0) KX hmg rfl rfl K10.checked K10.checkedG K10.stb (fun G hG e he call b => by
      simp only [K10.Gs, List.mem_cons, List.not_mem_nil, or_false] at hG
      subst hG
      cases he
      exact K10.catch__law_word call b)
      ⟨QE.lie_mk (x := "is_whole") (st := K10.topS 6) (N := K10.sN K10.n_is_whole) (ps := K10.sN (K10.n_is_whole.take 1)) (f := 70) (tab := K10.e_is_whole.tab) KX G ?a0 ?l0 ?c0 ?k0 K10.b_is_whole (fun _ _ _ h => by cases h), QE.lie_mk (x := "fits_whole") (st := K10.topS 7) (N := K10.sN K10.n_fits_whole) (ps := K10.sN (K10.n_fits_whole.take 3)) (f := 77) (tab := K10.e_fits_whole.tab) KX G ?a1 ?l1 ?c1 ?k1 K10.b_fits_whole (fun _ _ _ h => by cases h), QE.lie_mk (x := "is_tuple_of") (st := K10.topS 8) (N := K10.sN K10.n_is_tuple_of) (ps := K10.sN (K10.n_is_tuple_of.take 3)) (f := 84) (tab := K10.e_is_tuple_of.tab) KX G ?a2 ?l2 ?c2 ?k2 K10.b_is_tuple_of (fun _ _ _ h => by cases h), QE.lie_mk (x := "is_rising") (st := K10.topS 9) (N := K10.sN K10.n_is_rising) (ps := K10.sN (K10.n_is_rising.take 1)) (f := 89) (tab := K10.e_is_rising.tab) KX G ?a3 ?l3 ?c3 ?k3 K10.b_is_rising (fun _ _ _ h => by cases h), QE.lie_mk (x := "fits_gathering") (st := K10.topS 14) (N := K10.sN K10.n_fits_gathering) (ps := K10.sN (K10.n_fits_gathering.take 1)) (f := 94) (tab := K10.e_fits_gathering.tab) KX G ?a4 ?l4 ?c4 ?k4 K10.b_fits_gathering (fun _ _ _ h => by cases h), QE.lie_mk (x := "fits_book") (st := K10.topS 15) (N := K10.sN K10.n_fits_book) (ps := K10.sN (K10.n_fits_book.take 1)) (f := 99) (tab := K10.e_fits_book.tab) KX G ?a5 ?l5 ?c5 ?k5 K10.b_fits_book (fun _ _ _ h => by cases h), QE.lie_mk (x := "need_book") (st := K10.topS 16) (N := K10.sN K10.n_need_book) (ps := K10.sN (K10.n_need_book.take 1)) (f := 106) (tab := K10.e_need_book.tab) KX G ?a6 ?l6 ?c6 ?k6 K10.b_need_book (fun _ _ _ h => by cases h), QE.lie_mk (x := "need_leaf") (st := K10.topS 17) (N := K10.sN K10.n_need_leaf) (ps := K10.sN (K10.n_need_leaf.take 2)) (f := 113) (tab := K10.e_need_leaf.tab) KX G ?a7 ?l7 ?c7 ?k7 K10.b_need_leaf (fun _ _ _ h => by cases h), QE.lie_mk (x := "places_in") (st := K10.topS 18) (N := K10.sN K10.n_places_in) (ps := K10.sN (K10.n_places_in.take 1)) (f := 118) (tab := K10.e_places_in.tab) KX G ?a8 ?l8 ?c8 ?k8 K10.b_places_in (fun _ _ _ h => by cases h), QE.lie_mk (x := "pairs_in") (st := K10.topS 19) (N := K10.sN K10.n_pairs_in) (ps := K10.sN (K10.n_pairs_in.take 1)) (f := 123) (tab := K10.e_pairs_in.tab) KX G ?a9 ?l9 ?c9 ?k9 K10.b_pairs_in (fun _ _ _ h => by cases h), QE.lie_mk (x := "lone_in") (st := K10.topS 20) (N := K10.sN K10.n_lone_in) (ps := K10.sN (K10.n_lone_in.take 1)) (f := 128) (tab := K10.e_lone_in.tab) KX G ?a10 ?l10 ?c10 ?k10 K10.b_lone_in (fun _ _ _ h => by cases h), QE.lie_mk (x := "fits_marks") (st := K10.topS 21) (N := K10.sN K10.n_fits_marks) (ps := K10.sN (K10.n_fits_marks.take 2)) (f := 133) (tab := K10.e_fits_marks.tab) KX G ?a11 ?l11 ?c11 ?k11 K10.b_fits_marks (fun _ _ _ h => by cases h), QE.lie_mk (x := "need_marks") (st := K10.topS 22) (N := K10.sN K10.n_need_marks) (ps := K10.sN (K10.n_need_marks.take 2)) (f := 140) (tab := K10.e_need_marks.tab) KX G ?a12 ?l12 ?c12 ?k12 K10.b_need_marks (fun _ _ _ h => by cases h), QE.lie_mk (x := "need_most") (st := K10.topS 23) (N := K10.sN K10.n_need_most) (ps := K10.sN (K10.n_need_most.take 1)) (f := 147) (tab := K10.e_need_most.tab) KX G ?a13 ?l13 ?c13 ?k13 K10.b_need_most (fun _ _ _ h => by cases h), QE.lie_mk (x := "choices") (st := K10.topS 24) (N := K10.sN K10.n_choices) (ps := K10.sN (K10.n_choices.take 3)) (f := 152) (tab := K10.e_choices.tab) KX G ?a14 ?l14 ?c14 ?k14 K10.b_choices (fun _ _ _ h => by cases h), QE.lie_mk (x := "folds") (st := K10.topS 25) (N := K10.sN K10.n_folds) (ps := K10.sN (K10.n_folds.take 3)) (f := 157) (tab := K10.e_folds.tab) KX G ?a15 ?l15 ?c15 ?k15 K10.b_folds (fun _ _ _ h => by cases h), QE.lie_mk (x := "bests") (st := K10.topS 26) (N := K10.sN K10.n_bests) (ps := K10.sN (K10.n_bests.take 3)) (f := 164) (tab := K10.e_bests.tab) KX G ?a16 ?l16 ?c16 ?k16 K10.b_bests (fun _ _ _ h => by cases h), QE.lie_mk (x := "gathering_in") (st := K10.topS 27) (N := K10.sN K10.n_gathering_in) (ps := K10.sN (K10.n_gathering_in.take 4)) (f := 171) (tab := K10.e_gathering_in.tab) KX G ?a17 ?l17 ?c17 ?k17 K10.b_gathering_in (fun _ _ _ h => by cases h), QE.lie_mk (x := "leaves_many") (st := K10.topS 28) (N := K10.sN K10.n_leaves_many) (ps := K10.sN (K10.n_leaves_many.take 1)) (f := 178) (tab := K10.e_leaves_many.tab) KX G ?a18 ?l18 ?c18 ?k18 K10.b_leaves_many (fun _ _ _ h => by cases h), QE.lie_mk (x := "lost_many") (st := K10.topS 29) (N := K10.sN K10.n_lost_many) (ps := K10.sN (K10.n_lost_many.take 1)) (f := 183) (tab := K10.e_lost_many.tab) KX G ?a19 ?l19 ?c19 ?k19 K10.b_lost_many (fun _ _ _ h => by cases h), QE.lie_mk (x := "place_of") (st := K10.topS 30) (N := K10.sN K10.n_place_of) (ps := K10.sN (K10.n_place_of.take 2)) (f := 190) (tab := K10.e_place_of.tab) KX G ?a20 ?l20 ?c20 ?k20 K10.b_place_of (fun _ _ _ h => by cases h), QE.lie_mk (x := "mate_of") (st := K10.topS 31) (N := K10.sN K10.n_mate_of) (ps := K10.sN (K10.n_mate_of.take 2)) (f := 195) (tab := K10.e_mate_of.tab) KX G ?a21 ?l21 ?c21 ?k21 K10.b_mate_of (fun _ _ _ h => by cases h), QE.lie_mk (x := "marks_of") (st := K10.topS 32) (N := K10.sN K10.n_marks_of) (ps := K10.sN (K10.n_marks_of.take 1)) (f := 202) (tab := K10.e_marks_of.tab) KX G ?a22 ?l22 ?c22 ?k22 K10.b_marks_of (fun _ _ _ h => by cases h), QE.lie_mk (x := "sides_of") (st := K10.topS 33) (N := K10.sN K10.n_sides_of) (ps := K10.sN (K10.n_sides_of.take 2)) (f := 209) (tab := K10.e_sides_of.tab) KX G ?a23 ?l23 ?c23 ?k23 K10.b_sides_of (fun _ _ _ h => by cases h), QE.lie_mk (x := "unlike_openings") (st := K10.topS 34) (N := K10.sN K10.n_unlike_openings) (ps := K10.sN (K10.n_unlike_openings.take 1)) (f := 214) (tab := K10.e_unlike_openings.tab) KX G ?a24 ?l24 ?c24 ?k24 K10.b_unlike_openings (fun _ _ _ h => by cases h), QE.lie_mk (x := "are_marks") (st := K10.topS 35) (N := K10.sN K10.n_are_marks) (ps := K10.sN (K10.n_are_marks.take 2)) (f := 221) (tab := K10.e_are_marks.tab) KX G ?a25 ?l25 ?c25 ?k25 K10.b_are_marks (fun _ _ _ h => by cases h), QE.lie_mk (x := "does_fit") (st := K10.topS 36) (N := K10.sN K10.n_does_fit) (ps := K10.sN (K10.n_does_fit.take 2)) (f := 226) (tab := K10.e_does_fit.tab) KX G ?a26 ?l26 ?c26 ?k26 K10.b_does_fit (fun _ _ _ h => by cases h), QE.lie_mk (x := "fewest_lost") (st := K10.topS 37) (N := K10.sN K10.n_fewest_lost) (ps := K10.sN (K10.n_fewest_lost.take 3)) (f := 233) (tab := K10.e_fewest_lost.tab) KX G ?a27 ?l27 ?c27 ?k27 K10.b_fewest_lost (fun _ _ _ h => by cases h), QE.lie_mk (x := "best_book") (st := K10.topS 38) (N := K10.sN K10.n_best_book) (ps := K10.sN (K10.n_best_book.take 3)) (f := 240) (tab := K10.e_best_book.tab) KX G ?a28 ?l28 ?c28 ?k28 K10.b_best_book (fun _ _ _ h => by cases h), QE.lie_mk (x := "_law_cup") (st := K10.topS 40) (N := K10.sN K10.n__law_cup) (ps := K10.sN (K10.n__law_cup.take 1)) (f := 247) (tab := K10.e__law_cup.tab) KX G ?a29 ?l29 ?c29 ?k29 K10.b__law_cup (fun _ _ _ h => by cases h), QE.lie_mk (x := "_law_roll") (st := K10.topS 41) (N := K10.sN K10.n__law_roll) (ps := K10.sN (K10.n__law_roll.take 2)) (f := 254) (tab := K10.e__law_roll.tab) KX G ?a30 ?l30 ?c30 ?k30 K10.b__law_roll (fun _ _ _ h => by cases h), QE.lie_mk (x := "_law_some") (st := K10.topS 42) (N := K10.sN K10.n__law_some) (ps := K10.sN (K10.n__law_some.take 2)) (f := 261) (tab := K10.e__law_some.tab) KX G ?a31 ?l31 ?c31 ?k31 K10.b__law_some (fun _ _ _ h => by cases h), QE.lie_mk (x := "_law_book") (st := K10.topS 44) (N := K10.sN K10.n__law_book) (ps := K10.sN (K10.n__law_book.take 3)) (f := 271) (tab := K10.e__law_book.tab) KX G ?a32 ?l32 ?c32 ?k32 K10.b__law_book (fun _ _ _ h => by cases h), QE.lie_mk (x := "_law_word") (st := K10.topS 45) (N := K10.sN K10.n__law_word) (ps := K10.sN (K10.n__law_word.take 1)) (f := 276) (tab := K10.e__law_word.tab) KX G ?a33 ?l33 ?c33 ?k33 K10.b__law_word (fun _ _ _ h => by cases h), QE.lie_mk (x := "_law_seven") (st := K10.topS 46) (N := K10.sN K10.n__law_seven) (ps := K10.sN (K10.n__law_seven.take 2)) (f := 281) (tab := K10.e__law_seven.tab) KX G ?a34 ?l34 ?c34 ?k34 K10.b__law_seven (fun _ _ _ h => by cases h; rfl), QE.lie_mk (x := "law") (st := K10.topS 47) (N := K10.sN K10.n_law) (ps := K10.sN (K10.n_law.take 1)) (f := 286) (tab := K10.e_law.tab) KX G ?a35 ?l35 ?c35 ?k35 K10.b_law (fun _ _ _ h => by cases h; rfl), trivial⟩
      ⟨QE.con_mk (.int 8) KX G ?q0 rfl ?r0, QE.con_mk (.int 40) KX G ?q1 rfl ?r1, QE.con_mk (.int 40) KX G ?q2 rfl ?r2, trivial⟩
      ⟨PySem.W.mg_none_of KX G ?z0, PySem.W.mg_none_of KX G ?z1, PySem.W.mg_none_of KX G ?z2, PySem.W.mg_none_of KX G ?z3, PySem.W.mg_none_of KX G ?z4, PySem.W.mg_none_of KX G ?z5, PySem.W.mg_none_of KX G ?z6, PySem.W.mg_none_of KX G ?z7, PySem.W.mg_none_of KX G ?z8, PySem.W.mg_none_of KX G ?z9, PySem.W.mg_none_of KX G ?z10, PySem.W.mg_none_of KX G ?z11, PySem.W.mg_none_of KX G ?z12, PySem.W.mg_none_of KX G ?z13, PySem.W.mg_none_of KX G ?z14, PySem.W.mg_none_of KX G ?z15, trivial⟩
      ⟨PySem.W.mg_of KX G ?a0, PySem.W.mg_of KX G ?a1, PySem.W.mg_of KX G ?a2, PySem.W.mg_of KX G ?a3, PySem.W.mg_of KX G ?a4, PySem.W.mg_of KX G ?a5, PySem.W.mg_of KX G ?a6, PySem.W.mg_of KX G ?a7, PySem.W.mg_of KX G ?a8, PySem.W.mg_of KX G ?a9, PySem.W.mg_of KX G ?a10, PySem.W.mg_of KX G ?a11, PySem.W.mg_of KX G ?a12, PySem.W.mg_of KX G ?a13, PySem.W.mg_of KX G ?a14, PySem.W.mg_of KX G ?a15, PySem.W.mg_of KX G ?a16, PySem.W.mg_of KX G ?a17, PySem.W.mg_of KX G ?a18, PySem.W.mg_of KX G ?a19, PySem.W.mg_of KX G ?a20, PySem.W.mg_of KX G ?a21, PySem.W.mg_of KX G ?a22, PySem.W.mg_of KX G ?a23, PySem.W.mg_of KX G ?a24, PySem.W.mg_of KX G ?a25, PySem.W.mg_of KX G ?a26, PySem.W.mg_of KX G ?a27, PySem.W.mg_of KX G ?a28, PySem.W.mg_of KX G ?a29, PySem.W.mg_of KX G ?a30, PySem.W.mg_of KX G ?a31, PySem.W.mg_of KX G ?a32, PySem.W.mg_of KX G ?a33, PySem.W.mg_of KX G ?a34, PySem.W.mg_of KX G ?a35, trivial⟩
      ⟨⟨PySem.W.mg_of KX G ?m0, CF0⟩, ⟨PySem.W.mg_of KX G ?m1, CF1⟩, ⟨PySem.W.mg_of KX G ?m2, CF2⟩, ⟨PySem.W.mg_of KX G ?m3, CF3⟩, trivial⟩
      ⟨⟨24, PySem.W.mg_of KX G ?m0, CF0, ⟨?o0__law_word, ?o1__law_word, ?o2__law_word, ?o3__law_word, trivial⟩⟩, trivial⟩
      ⟨⟨49, PySem.W.mg_of KX G ?m2, CF2, ⟨⟨false, rfl, ?s0_0, rfl⟩, ⟨false, rfl, ?s1_0, rfl⟩, ⟨true, rfl, ?s2_0, rfl⟩, ⟨false, rfl, ?s3_0, rfl⟩, trivial⟩⟩, ⟨61, PySem.W.mg_of KX G ?m3, CF3, ⟨⟨false, rfl, ?s0_1, rfl⟩, ⟨false, rfl, ?s1_1, rfl⟩, ⟨false, rfl, ?s2_1, rfl⟩, ⟨true, rfl, ?s3_1, rfl⟩, trivial⟩⟩, ⟨37, PySem.W.mg_of KX G ?m1, CF1, ⟨⟨false, rfl, ?s0_2, rfl⟩, ⟨true, rfl, ?s1_2, rfl⟩, ⟨false, rfl, ?s2_2, rfl⟩, ⟨false, rfl, ?s3_2, rfl⟩, trivial⟩⟩, trivial⟩
      ?sp ?tk rfl rfl rfl (fun _ _ _ _ _ _ _ => rfl) rfl K10.told (by rw [K10.cs_eq]; decide) (by rw [K10.cs_eq]; decide) KT ⟨⟨?x0, ?y0⟩, ⟨?x1, ?y1⟩, trivial⟩
    (case a0 => k_is)
    (case l0 => k_is)
    (case c0 => k_is)
    (case k0 => k_is)
    (case a1 => k_is)
    (case l1 => k_is)
    (case c1 => k_is)
    (case k1 => k_is)
    (case a2 => k_is)
    (case l2 => k_is)
    (case c2 => k_is)
    (case k2 => k_is)
    (case a3 => k_is)
    (case l3 => k_is)
    (case c3 => k_is)
    (case k3 => k_is)
    (case a4 => k_is)
    (case l4 => k_is)
    (case c4 => k_is)
    (case k4 => k_is)
    (case a5 => k_is)
    (case l5 => k_is)
    (case c5 => k_is)
    (case k5 => k_is)
    (case a6 => k_is)
    (case l6 => k_is)
    (case c6 => k_is)
    (case k6 => k_is)
    (case a7 => k_is)
    (case l7 => k_is)
    (case c7 => k_is)
    (case k7 => k_is)
    (case a8 => k_is)
    (case l8 => k_is)
    (case c8 => k_is)
    (case k8 => k_is)
    (case a9 => k_is)
    (case l9 => k_is)
    (case c9 => k_is)
    (case k9 => k_is)
    (case a10 => k_is)
    (case l10 => k_is)
    (case c10 => k_is)
    (case k10 => k_is)
    (case a11 => k_is)
    (case l11 => k_is)
    (case c11 => k_is)
    (case k11 => k_is)
    (case a12 => k_is)
    (case l12 => k_is)
    (case c12 => k_is)
    (case k12 => k_is)
    (case a13 => k_is)
    (case l13 => k_is)
    (case c13 => k_is)
    (case k13 => k_is)
    (case a14 => k_is)
    (case l14 => k_is)
    (case c14 => k_is)
    (case k14 => k_is)
    (case a15 => k_is)
    (case l15 => k_is)
    (case c15 => k_is)
    (case k15 => k_is)
    (case a16 => k_is)
    (case l16 => k_is)
    (case c16 => k_is)
    (case k16 => k_is)
    (case a17 => k_is)
    (case l17 => k_is)
    (case c17 => k_is)
    (case k17 => k_is)
    (case a18 => k_is)
    (case l18 => k_is)
    (case c18 => k_is)
    (case k18 => k_is)
    (case a19 => k_is)
    (case l19 => k_is)
    (case c19 => k_is)
    (case k19 => k_is)
    (case a20 => k_is)
    (case l20 => k_is)
    (case c20 => k_is)
    (case k20 => k_is)
    (case a21 => k_is)
    (case l21 => k_is)
    (case c21 => k_is)
    (case k21 => k_is)
    (case a22 => k_is)
    (case l22 => k_is)
    (case c22 => k_is)
    (case k22 => k_is)
    (case a23 => k_is)
    (case l23 => k_is)
    (case c23 => k_is)
    (case k23 => k_is)
    (case a24 => k_is)
    (case l24 => k_is)
    (case c24 => k_is)
    (case k24 => k_is)
    (case a25 => k_is)
    (case l25 => k_is)
    (case c25 => k_is)
    (case k25 => k_is)
    (case a26 => k_is)
    (case l26 => k_is)
    (case c26 => k_is)
    (case k26 => k_is)
    (case a27 => k_is)
    (case l27 => k_is)
    (case c27 => k_is)
    (case k27 => k_is)
    (case a28 => k_is)
    (case l28 => k_is)
    (case c28 => k_is)
    (case k28 => k_is)
    (case a29 => k_is)
    (case l29 => k_is)
    (case c29 => k_is)
    (case k29 => k_is)
    (case a30 => k_is)
    (case l30 => k_is)
    (case c30 => k_is)
    (case k30 => k_is)
    (case a31 => k_is)
    (case l31 => k_is)
    (case c31 => k_is)
    (case k31 => k_is)
    (case a32 => k_is)
    (case l32 => k_is)
    (case c32 => k_is)
    (case k32 => k_is)
    (case a33 => k_is)
    (case l33 => k_is)
    (case c33 => k_is)
    (case k33 => k_is)
    (case a34 => k_is)
    (case l34 => k_is)
    (case c34 => k_is)
    (case k34 => k_is)
    (case a35 => k_is)
    (case l35 => k_is)
    (case c35 => k_is)
    (case k35 => k_is)
    (case q0 => k_is)
    (case r0 => exact ⟨_, rfl⟩)
    (case q1 => k_is)
    (case r1 => exact ⟨_, rfl⟩)
    (case q2 => k_is)
    (case r2 => exact ⟨_, rfl⟩)
    (case z0 => k_is)
    (case z1 => k_is)
    (case z2 => k_is)
    (case z3 => k_is)
    (case z4 => k_is)
    (case z5 => k_is)
    (case z6 => k_is)
    (case z7 => k_is)
    (case z8 => k_is)
    (case z9 => k_is)
    (case z10 => k_is)
    (case z11 => k_is)
    (case z12 => k_is)
    (case z13 => k_is)
    (case z14 => k_is)
    (case z15 => k_is)
    (case m0 => k_is)
    (case m1 => k_is)
    (case m2 => k_is)
    (case m3 => k_is)
    (case s0_0 => k_is)
    (case s1_0 => k_is)
    (case s2_0 => k_is)
    (case s3_0 => k_is)
    (case s0_1 => k_is)
    (case s1_1 => k_is)
    (case s2_1 => k_is)
    (case s3_1 => k_is)
    (case s0_2 => k_is)
    (case s1_2 => k_is)
    (case s2_2 => k_is)
    (case s3_2 => k_is)
    (case o0__law_word => k_is)
    (case o1__law_word => k_is)
    (case o2__law_word => k_is)
    (case o3__law_word => k_is)
    (case x0 => kernel_rfl)
    (case y0 => kernel_rfl)
    (case x1 => kernel_rfl)
    (case y1 => kernel_rfl)
    (case sp => k_is)
    (case tk => k_is)
