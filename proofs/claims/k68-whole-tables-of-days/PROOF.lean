import PyProof.Rows.All
import Wide.All
import OpenK.AllK
import Wide.FinOn
import HandS.ForMost
import HandS.Walk
import HandS.Zip
import HandS.Deep
import HandS.TupAny
import HandS.TupMul
import HandS.TupLe
import HandS.Style
import HandS.IsInst
import HandS.DictComp
import HandS.Conv
import HandS.Codes
import HandS.Lambda
import HandS.ExcCtx
import HandS.CallLocal
import HandS.HotCalls
import HandS.Wide
import HandS.RaiseMore
import HandS.SetFor
import HandS.Strs
import KE.DatumOrd
import KE.GoesMore
import HandS.Iter
import HandS.Hot
import HandS.Comp
import KE.GoesZip
import PyProof.ZipIter
import HandS.ExcIs
import KE.KRevSl
import HandS.EndTab
import HandS.Words
import HandS.Ends
import HandS.NestedK
import PySem.Challenge.RW_quires_k68_whole_tables_of_days
/-! A small evaluator for the part of Python that this program and its laws use. Values are plain data; what is changed in place lies in cells of a store. -/
set_option linter.all false
namespace QE

inductive Val where
  | non
  | bl (b : Bool)
  | int (i : Int)
  | str (s : List Nat)
  | tup (xs : List Val)
  /-- a list that is only read from here on; fresh: nobody else knows it yet -/
  | lst (fresh : Bool) (xs : List Val)
  /-- a dict that is only read; t: its keys are tuples -/
  | dic (fresh : Bool) (t : Bool) (kvs : List (Val × Val))
  /-- a cell of the store -/
  | ref (n : Nat)
  /-- a list of ints that the text has written -/
  | kls (is : List Int)
  /-- a def, and where it lies -/
  | fn (f a : Nat)
  /-- an exception that is handled: its class, where it lies -/
  | exn (k a : Nat)
  /-- a tuple of flat values without a dict of its own -/
  | ptup (xs : List Val)
  deriving Inhabited

/-- what a cell holds -/
inductive Ob where
  | lst (xs : List Val)
  | dic (t : Bool) (kvs : List (Val × Val))
  /-- a table of code objects: where it lies, the name that they bear -/
  | tbl (p : Nat) (q : List Nat)
  deriving Inhabited

abbrev Sto := List Ob
abbrev Env := List (Option Val)

inductive R (α : Type) where
  | ok (a : α) (S : Sto)
  | exc (c : Nat) (ps : List Val) (S : Sto)
  | bad

def R.bind {α β : Type} (r : R α) (f : α → Sto → R β) : R β := match r with
  | .ok a S => f a S
  | .exc c p S => .exc c p S
  | .bad => .bad
/-- an exception is not let out -/
def R.calm {α : Type} (r : R α) : R α := match r with
  | .ok a S => .ok a S
  | _ => .bad
def R.of {α : Type} (o : Option α) (S : Sto) : R α := match o with
  | some a => .ok a S
  | none => .bad

def Val.settle : Val → Val
  | .lst _ xs => .lst false xs
  | .dic _ t kvs => .dic false t kvs
  | v => v

/-- it is not a value that nobody else knows yet -/
def Val.st : Val → Bool
  | .lst f _ => !f
  | .dic f _ _ => !f
  | _ => true

def lim : Nat := 16777216

/-! ### data: depth, no cells; equality -/
mutual
def Val.chk : Nat → Val → Bool
  | _, .non => true
  | _, .bl _ => true
  | _, .int _ => true
  | _, .str s => s.all (· < 1114112)
  | 0, .tup _ => false
  | d + 1, .tup xs => Val.chkL d xs
  | 0, .lst _ _ => false
  | d + 1, .lst _ xs => Val.chkL d xs
  | 0, .ptup _ => false
  | d + 1, .ptup xs => Val.chkL d xs
  | _, _ => false
def Val.chkL : Nat → List Val → Bool
  | _, [] => true
  | d, x :: xs => Val.chk d x && Val.chkL d xs
end
mutual
def Val.eqv : Val → Val → Bool
  | .non, .non => true
  | .bl a, .bl b => a == b
  | .bl a, .int b => (if a then 1 else 0) == b
  | .int a, .bl b => a == (if b then 1 else 0)
  | .int a, .int b => a == b
  | .str a, .str b => a == b
  | .tup xs, .tup ys => Val.eqvL xs ys
  | .lst _ xs, .lst _ ys => Val.eqvL xs ys
  | .ptup xs, .tup ys => Val.eqvL xs ys
  | .tup xs, .ptup ys => Val.eqvL xs ys
  | .ptup xs, .ptup ys => Val.eqvL xs ys
  | _, _ => false
def Val.eqvL : List Val → List Val → Bool
  | [], [] => true
  | x :: xs, y :: ys => Val.eqv x y && Val.eqvL xs ys
  | _, _ => false
end
/-- a cell's list as it stands -/
def res (S : Sto) (v : Val) : Val := match v with
  | .ref n => (match S[n]? with
    | some (.lst xs) => .lst false xs
    | _ => v)
  | v => v
/-- a list's cells as they stand -/
def resD (S : Sto) (v : Val) : Val := match v with
  | .lst f xs => .lst f (xs.map (res S))
  | v => res S v
def eqVal (S : Sto) (x y : Val) : Option Bool :=
  if (res S x).chk 64 && (res S y).chk 64 then some ((res S x).eqv (res S y))
  else if (resD S x).chk 64 && (resD S y).chk 64 then some ((resD S x).eqv (resD S y)) else none

def asList (S : Sto) (v : Val) : Option (List Val) := match v with
  | .lst _ xs => some xs
  | .ref n => (match S[n]? with
    | some (.lst xs) => some xs
    | _ => none)
  | _ => none
def asTup (v : Val) : Option (List Val) := match v with
  | .tup xs => some xs
  | _ => none
def asSeq (S : Sto) (v : Val) : Option (List Val) := match v with
  | .tup xs => some xs
  | .ptup xs => some xs
  | v => asList S v

/-! ### keys of dicts -/
def Val.flatKey : Val → Bool
  | .int _ => true
  | .str _ => true
  | _ => false
def Val.isKey (t : Bool) (k : Val) : Bool := if t then (match k with
  | .tup xs => xs.all Val.flatKey
  | _ => false) else k.flatKey
def flatEq : Val → Val → Bool
  | .int a, .int b => a == b
  | .str a, .str b => a == b
  | _, _ => false
def flatEqL : List Val → List Val → Bool
  | [], [] => true
  | x :: xs, y :: ys => flatEq x y && flatEqL xs ys
  | _, _ => false
def keyEq : Val → Val → Bool
  | .tup xs, .tup ys => flatEqL xs ys
  | x, y => flatEq x y
def dGet (k : Val) : List (Val × Val) → Option Val
  | [] => none
  | (q, v) :: r => if keyEq q k then some v else dGet k r
def dHas (k : Val) : List (Val × Val) → Bool
  | [] => false
  | (q, _) :: r => keyEq q k || dHas k r
def dMap (k v : Val) : List (Val × Val) → List (Val × Val)
  | [] => []
  | (q, u) :: r => (if keyEq q k then (q, v) else (q, u)) :: dMap k v r
def dPut (k v : Val) (kvs : List (Val × Val)) : List (Val × Val) := if dHas k kvs then dMap k v kvs else kvs ++ [(k, v)]
def asDic (S : Sto) (v : Val) : Option (Bool × List (Val × Val)) := match v with
  | .dic _ t kvs => some (t, kvs)
  | .ref n => (match S[n]? with
    | some (.dic t kvs) => some (t, kvs)
    | _ => none)
  | _ => none

/-! ### operators -/
inductive BOp where
  | add | sub | mul | fdiv | mod | pow
  deriving DecidableEq
inductive COp where
  | eq | ne | lt | le | gt | ge | in_ | nin | is_ | isn
  deriving DecidableEq

def small (i : Int) : Bool := decide (-(2 ^ 64) < i) && decide (i < 2 ^ 64)
def rep {α : Type} : Nat → List α → List α
  | 0, _ => []
  | n + 1, xs => xs ++ rep n xs

def addV (S : Sto) : Val → Val → Option Val
  | .int a, .int b => some (.int (a + b))
  | .str a, .str b => if a.length + b.length ≤ lim then some (.str (a ++ b)) else none
  | .tup a, .tup b => if a.length + b.length ≤ lim then some (.tup (a ++ b)) else none
  | .ptup a, .tup b => if !a.isEmpty && !b.isEmpty && decide (a.length + b.length ≤ lim) then some (.tup (a ++ b)) else none
  | x, y => (match asList S x, asList S y with
    | some a, some b => if a.length + b.length ≤ lim then some (.lst true (a ++ b)) else none
    | _, _ => none)
def subV (_ : Sto) : Val → Val → Option Val
  | .int a, .int b => some (.int (a - b))
  | _, _ => none
def mulV (_ : Sto) : Val → Val → Option Val
  | .int a, .int b => if small a || small b then some (.int (a * b)) else none
  | .tup a, .int k => if a.isEmpty then none else if 1 ≤ k ∧ k ≤ 1000 ∧ a.length ≤ 1000 then some (.tup (rep k.toNat a)) else none
  | .lst true a, .int k => if 0 ≤ k ∧ k ≤ 1000 ∧ a.length ≤ 1000 then some (.lst true (rep k.toNat a)) else none
  | _, _ => none
def fdivV (_ : Sto) : Val → Val → Option Val
  | .int a, .int b => if b ≠ 0 ∧ b.natAbs < 1073741824 then some (.int (a.fdiv b)) else none
  | _, _ => none
def modV (_ : Sto) : Val → Val → Option Val
  | .int a, .int b => if b ≠ 0 then some (.int (a.fmod b)) else none
  | _, _ => none
def powV (_ : Sto) : Val → Val → Option Val
  | .int a, .int b => if 0 ≤ b ∧ b ≤ 1000000 ∧ a.natAbs < 2 ^ 64 then some (.int (a ^ b.toNat)) else none
  | _, _ => none
def bin (S : Sto) : BOp → Val → Val → Option Val
  | .add => addV S
  | .sub => subV S
  | .mul => mulV S
  | .fdiv => fdivV S
  | .mod => modV S
  | .pow => powV S

def lexLt : List Nat → List Nat → Bool
  | [], [] => false
  | [], _ :: _ => true
  | _ :: _, [] => false
  | a :: r, b :: s => if a = b then lexLt r s else decide (a < b)
def ints? : List Val → Option (List Int)
  | [] => some []
  | .int i :: r => (match ints? r with
    | some l => some (i :: l)
    | none => none)
  | _ => none
def lexLtI : List Int → List Int → Bool
  | [], [] => false
  | [], _ :: _ => true
  | _ :: _, [] => false
  | a :: r, b :: s => if a = b then lexLtI r s else decide (a < b)
/-- x < y of ints, of texts, of tuples of ints -/
def ltVal : Val → Val → Option Bool
  | .int a, .int b => some (decide (a < b))
  | .str a, .str b => some (lexLt a b)
  | .tup a, .tup b => (match ints? a, ints? b with
    | some x, some y => some (lexLtI x y)
    | _, _ => none)
  | _, _ => none
def leVal : Val → Val → Option Bool
  | .int a, .int b => some (decide (a ≤ b))
  | _, _ => none
def gtVal : Val → Val → Option Bool
  | .int a, .int b => some (decide (b < a))
  | _, _ => none
def anyEq (_ : Sto) (x : Val) (ys : List Val) : Option Bool :=
  if x.chk 64 && Val.chkL 63 ys then some (ys.any fun y => y.eqv x) else none
def Val.flat : Val → Bool
  | .non => true
  | .bl _ => true
  | .int _ => true
  | .str _ => true
  | _ => false
def hasStr (b : List Nat) : Val → Option Bool
  | .str [c] => some (decide (c ∈ b))
  | _ => none
def hasFlat (x : Val) (ys : List Val) : Option Bool := if x.flat && ys.all Val.flat then some (ys.any fun y => y.eqv x) else none
def hasDic (x : Val) : Option (Bool × List (Val × Val)) → Option Bool
  | some (t, kvs) => if x.isKey t then some (dGet x kvs).isSome else none
  | none => none
def isIn (S : Sto) (x y : Val) : Option Bool := match y with
  | .str b => hasStr b x
  | .tup ys => hasFlat x ys
  | .ptup ys => hasFlat x ys
  | y => (match asList S y with
    | some ys => anyEq S x ys
    | none => hasDic x (asDic S y))
def isVal : Val → Val → Option Bool
  | .non, .non => some true
  | .bl a, .bl b => some (decide (a = b))
  | _, .non => some false
  | _, _ => none
def nt (o : Option Bool) : Option Bool := match o with
  | some b => some (!b)
  | none => none
def cmp (S : Sto) : COp → Val → Val → Option Bool
  | .eq, x, y => eqVal S x y
  | .ne, x, y => nt (eqVal S x y)
  | .lt, x, y => ltVal x y
  | .gt, x, y => gtVal x y
  | .le, x, y => leVal x y
  | .ge, x, y => leVal y x
  | .in_, x, y => isIn S x y
  | .nin, x, y => nt (isIn S x y)
  | .is_, x, y => isVal x y
  | .isn, x, y => nt (isVal x y)

/-! ### items, slices -/
def ixN (n : Nat) (i : Int) : Option Nat :=
  if 0 ≤ i then (if i < n then some i.toNat else none) else (if -(n : Int) ≤ i then some (i + n).toNat else none)
def atI {α : Type} (xs : List α) (i : Int) : Option α := match ixN xs.length i with
  | some j => xs[j]?
  | none => none
def clip (n d : Nat) : Option Int → Nat
  | none => d
  | some i => if i < 0 then (i + n).toNat else min i.toNat n
def cut {α : Type} (xs : List α) (lo hi : Option Int) : List α := (xs.drop (clip xs.length 0 lo)).take (clip xs.length xs.length hi - clip xs.length 0 lo)
def itemOf {α : Type} (xs : List α) : Val → Option α
  | .int i => atI xs i
  | _ => none
def itemDic (i : Val) : Option (Bool × List (Val × Val)) → Option Val
  | some (t, kvs) => if i.isKey t then dGet i kvs else none
  | none => none
def itemStr : Option Nat → Option Val
  | some c => some (.str [c])
  | none => none
def item (S : Sto) (o i : Val) : Option Val := match o with
  | .tup xs => itemOf xs i
  | .ptup xs => itemOf xs i
  | .str s => if s.length ≤ lim then itemStr (itemOf s i) else none
  | o => (match asList S o with
    | some xs => itemOf xs i
    | none => itemDic i (asDic S o))
def slice (S : Sto) (o : Val) (lo hi : Option Int) : Option Val := match o with
  | .tup xs => some (.tup (cut xs lo hi))
  | .ptup xs => if clip xs.length 0 lo = 0 ∧ clip xs.length xs.length hi = xs.length then some (.ptup xs) else some (.tup (cut xs lo hi))
  | .str s => if s.length ≤ lim then some (.str (cut s lo hi)) else none
  | o => (match asList S o with
    | some xs => some (.lst true (cut xs lo hi))
    | none => none)

/-- x[::-1] -/
def revV (S : Sto) (v : Val) : Option Val := match v with
  | .tup xs => some (.tup xs.reverse)
  | .ptup xs => some (.tup xs.reverse)
  | v => (match asList S v with
    | some xs => some (.lst true xs.reverse)
    | none => none)
/-! ### one and the same -/
mutual
def Val.same : Val → Val → Bool
  | .non, .non => true
  | .bl a, .bl b => a == b
  | .int a, .int b => a == b
  | .str a, .str b => a == b
  | .tup xs, .tup ys => Val.sameL xs ys
  | .ptup xs, .ptup ys => Val.sameL xs ys
  | .lst f xs, .lst g ys => f == g && Val.sameL xs ys
  | .ref a, .ref b => a == b
  | _, _ => false
def Val.sameL : List Val → List Val → Bool
  | [], [] => true
  | x :: xs, y :: ys => Val.same x y && Val.sameL xs ys
  | _, _ => false
end
/-- cell n holds this list -/
def cellIs (S : Sto) (n : Nat) (xs : List Val) : Bool := match S[n]? with
  | some (.lst ys) => Val.sameL ys xs
  | _ => false
/-- the cell of a value, what its list holds -/
def cellOf (S : Sto) (v : Val) : Option (Nat × List Val) := match v with
  | .ref n => (match S[n]? with
    | some (.lst xs) => some (n, xs)
    | _ => none)
  | _ => none
/-! ### built-ins -/
inductive Ty where
  | int | bool | str | tuple | list
  deriving DecidableEq
/-- the name of a value's type -/
def tyName (S : Sto) : Val → Option Ty
  | .non => none
  | .bl _ => some .bool
  | .int _ => some .int
  | .str _ => some .str
  | .tup _ => some .tuple
  | .ptup _ => some .tuple
  | .lst _ _ => some .list
  | .ref n => (match S[n]? with
    | some (.lst _) => some .list
    | _ => none)
  | _ => none
def isNon : Val → Bool
  | .non => true
  | _ => false
def isTy (S : Sto) (t : Ty) (v : Val) : Option Bool := match tyName S v with
  | some u => some (decide (u = t) || (decide (u = .bool) && decide (t = .int)))
  | none => if isNon v then some false else none
inductive Bi where
  | len | all | any | list | tuple | sum | min2 | max2 | abs | int | str | minL | dict | maxL | ptuple
  deriving DecidableEq
def bools? : List Val → Option (List Bool)
  | [] => some []
  | .bl b :: r => (match bools? r with
    | some l => some (b :: l)
    | none => none)
  | _ => none
/-- the figures of n, at most f of them -/
def figs : Nat → Nat → List Nat → List Nat
  | 0, _, acc => acc
  | f + 1, n, acc => if n < 10 then (48 + n) :: acc else figs f (n / 10) ((48 + n % 10) :: acc)
def lenOf (S : Sto) : Val → Option Val
  | .str s => if s.length ≤ lim then some (.int s.length) else none
  | v => (match asSeq S v with
    | some xs => some (.int xs.length)
    | none => none)
def boolsV (S : Sto) (v : Val) : Option (List Bool) := match asList S v with
  | some xs => bools? xs
  | none => none
def intsV (S : Sto) (v : Val) : Option (List Int) := match asList S v with
  | some xs => ints? xs
  | none => none
/-- the ints of a list or tuple -/
def intsT (S : Sto) (v : Val) : Option (List Int) := match asSeq S v with
  | some xs => ints? xs
  | none => none
def listOf (S : Sto) (v : Val) : Option Val := match v with
  | .kls ns => some (.lst true (ns.map .int))
  | v => (match asSeq S v with
    | some xs => some (.lst true xs)
    | none => none)
def tupleOf (S : Sto) (v : Val) : Option Val := match v with
  | .ptup xs => some (.ptup xs)
  | v => (match asSeq S v with
    | some xs => some (.tup xs)
    | none => none)
/-- tuple(x) of a list of flat values: a tuple without a dict -/
def ptupleOf (S : Sto) (v : Val) : Option Val := match asList S v with
  | some xs => if xs.all Val.flat then some (.ptup xs) else none
  | none => none
def strVal : Val → Option Val
  | .int n => if 0 ≤ n ∧ n < 10 ^ 10 then some (.str (figs 10 n.toNat [])) else none
  | .str s => some (.str s)
  | _ => none
def pairs? : List Val → Option (List (Int × Int))
  | [] => some []
  | .tup [.int a, .int b] :: r => (match pairs? r with
    | some l => some ((a, b) :: l)
    | none => none)
  | _ => none
def minI (a : Int) (l : List Int) : Int := l.foldl (fun m x => if x < m then x else m) a
def ltP (x y : Int × Int) : Bool := if x.1 = y.1 then decide (x.2 < y.2) else decide (x.1 < y.1)
def minP (a : Int × Int) (l : List (Int × Int)) : Int × Int := l.foldl (fun m x => if ltP x m then x else m) a
/-- the least of ints, or of pairs of ints -/
def minV (xs : List Val) : Option Val := match ints? xs with
  | some (a :: l) => some (.int (minI a l))
  | some [] => none
  | none => (match pairs? xs with
    | some (a :: l) => some (.tup [.int (minP a l).1, .int (minP a l).2])
    | _ => none)
/-- a dict of pairs, later ones over earlier ones -/
def dictV : List Val → List (Val × Val) → Option (List (Val × Val))
  | [], acc => some acc
  | .tup [k, v] :: r, acc => if k.flatKey then dictV r (dPut k v acc) else none
  | _, _ => none
/-- the greatest of ints -/
def maxI (a : Int) (l : List Int) : Int := l.foldl (fun m x => if m < x then x else m) a
def callBi (S : Sto) : Bi → List Val → Option Val
  | .len, [v] => lenOf S v
  | .all, [v] => (match boolsV S v with
    | some bs => some (.bl (bs.all id))
    | none => none)
  | .any, [v] => (match boolsV S v with
    | some bs => some (.bl (bs.any id))
    | none => none)
  | .list, [v] => listOf S v
  | .tuple, [v] => tupleOf S v
  | .ptuple, [v] => ptupleOf S v
  | .sum, [v] => (match intsT S v with
    | some is => some (.int is.sum)
    | none => none)
  | .min2, [.int a, .int b] => some (.int (if b < a then b else a))
  | .max2, [.int a, .int b] => some (.int (if b > a then b else a))
  | .abs, [.int a] => some (.int (if a < 0 then -a else a))
  | .int, [.int a] => some (.int a)
  | .str, [v] => strVal v
  | .minL, [v] => (match asList S v with
    | some xs => minV xs
    | none => none)
  | .maxL, [v] => (match intsV S v with
    | some (a :: l) => some (.int (maxI a l))
    | _ => none)
  | .dict, [v] => (match asList S v with
    | some xs => if xs.length ≤ lim then (match dictV xs [] with
      | some kvs => some (.dic true false kvs)
      | none => none) else none
    | none => none)
  | _, _ => none

/-- methods that change nothing -/
inductive Me where
  | count | index | tindex
  deriving DecidableEq
def indexOf (x : Val) : List Val → Nat → Option Nat
  | [], _ => none
  | y :: r, n => if y.eqv x then some n else indexOf x r (n + 1)
def idxOf (x : Val) (xs : List Val) : Option Val := if x.chk 64 && Val.chkL 63 xs then (match indexOf x xs 0 with
    | some n => some (.int n)
    | none => none) else none
/-- how often a flat value is among flat ones -/
def countV (x : Val) (xs : List Val) : Option Val := if x.flat && xs.all Val.flat then some (.int (xs.countP fun y => y.eqv x : Nat)) else none
def flatIdx (x : Val) (xs : List Val) : Option Val := if x.flat && xs.all Val.flat then (match indexOf x xs 0 with
    | some n => some (.int n)
    | none => none) else none
/-- the items of a tuple without a dict -/
def asPt (v : Val) : Option (List Val) := match v with
  | .ptup xs => some xs
  | _ => none
def recOf (S : Sto) : Me → Val → Option (List Val)
  | .tindex, v => asPt v
  | _, v => asList S v
def callMe (S : Sto) : Me → Val → List Val → Option Val
  | .count, o, [x] => (match asList S o with
    | some xs => countV x xs
    | none => none)
  | .index, o, [x] => (match asList S o with
    | some xs => idxOf x xs
    | none => none)
  | .tindex, o, [x] => (match asPt o with
    | some xs => flatIdx x xs
    | none => none)
  | _, _, _ => none

/-! ### cells -/
mutual
/-- no cell from b on -/
def Val.low (b : Nat) : Val → Bool
  | .tup xs => Val.lowL b xs
  | .ptup xs => Val.lowL b xs
  | .lst _ xs => Val.lowL b xs
  | .dic _ _ kvs => Val.lowD b kvs
  | .ref n => decide (n < b)
  | _ => true
def Val.lowL (b : Nat) : List Val → Bool
  | [] => true
  | x :: xs => Val.low b x && Val.lowL b xs
def Val.lowD (b : Nat) : List (Val × Val) → Bool
  | [] => true
  | (_, x) :: xs => Val.low b x && Val.lowD b xs
end
/-- what may be put into cell n by a def that began with b cells -/
def mayPut (b n : Nat) (v : Val) : Bool := decide (b ≤ n) || v.low 0
def append (b : Nat) (S : Sto) (o v : Val) : R Val := match o with
  | .ref n => (match S[n]? with
    | some (.lst xs) => if xs.length < lim && mayPut b n v.settle then .ok .non (S.set n (.lst (xs ++ [v.settle]))) else .bad
    | _ => .bad)
  | _ => .bad
def extend (b : Nat) (S : Sto) (o v : Val) : R Val := match o with
  | .ref n => (match S[n]?, asList S v with
    | some (.lst xs), some ys => if xs.length + ys.length ≤ lim && (decide (b ≤ n) || Val.lowL 0 ys) then .ok (.ref n) (S.set n (.lst (xs ++ ys))) else .bad
    | _, _ => .bad)
  | _ => .bad
def setIx (b : Nat) (S : Sto) (o i v : Val) : R Unit := match o with
  | .ref n => (match S[n]? with
    | some (.lst xs) => (match i with
      | .int k => (match ixN xs.length k with
        | some j => if mayPut b n v.settle then .ok () (S.set n (.lst (xs.set j v.settle))) else .bad
        | none => .bad)
      | _ => .bad)
    | some (.dic t kvs) => if i.isKey t && kvs.length < lim && mayPut b n v.settle then .ok () (S.set n (.dic t (dPut i v.settle kvs))) else .bad
    | _ => .bad)
  | _ => .bad
/-- a fresh list gets a cell -/
def newCell (S : Sto) (v : Val) : R Val := match v with
  | .lst true xs => .ok (.ref S.length) (S ++ [.lst xs])
  | .dic true t kvs => .ok (.ref S.length) (S ++ [.dic t kvs])
  | _ => .bad
/-- what a def hands back: its own cells become plain values -/
def freeze1 (b : Nat) (S : Sto) (v : Val) : Option Val := match v with
  | .ref n => if n < b then some v else (match S[n]? with
    | some (.lst xs) => if Val.lowL b xs then some (.lst true xs) else none
    | some (.dic t kvs) => if Val.lowD b kvs then some (.dic true t kvs) else none
    | _ => none)
  | v => if v.low b then some v else none
def freezeL (b : Nat) (S : Sto) : List Val → Option (List Val)
  | [] => some []
  | x :: xs => (match freeze1 b S x, freezeL b S xs with
    | some y, some ys => some (y.settle :: ys)
    | _, _ => none)
def freeze (b : Nat) (S : Sto) (v : Val) : Option Val := match v with
  | .tup xs => (match freezeL b S xs with
    | some ys => some (.tup ys)
    | none => none)
  | v => freeze1 b S v

/-! ### the text -/
inductive T where
  | name (i : Nat)
  | tup (ts : List T)
mutual
def bindT : T → Val → Env → Option Env
  | .name i, v, env => some (env.set i (some v.settle))
  | .tup ts, .tup xs, env => bindTs ts xs env
  | _, _, _ => none
def bindTs : List T → List Val → Env → Option Env
  | [], [], env => some env
  | t :: ts, x :: xs, env => (match bindT t x env with
    | some env' => bindTs ts xs env'
    | none => none)
  | _, _, _ => none
end

mutual
inductive E where
  | var (i : Nat)
  | lit (v : Val)
  | con (i : Nat)
  | bin (op : BOp) (a b : E)
  | neg (a : E)
  | cmp (op : COp) (a b : E)
  | chain (o1 o2 : COp) (a b c : E)
  | and (es : List E)
  | or (es : List E)
  | not (a : E)
  | ite (c a b : E)
  | tup (es : List E)
  | list (es : List E)
  | dnew (t : Bool)
  | idx (a i : E)
  | slice (a : E) (lo hi : Option E)
  | call (f : Nat) (es : List E)
  | bi (b : Bi) (es : List E)
  | isi (t : Ty) (a : E)
  | meth (m : Me) (o : E) (a : E)
  | append (o : E) (a : E)
  | comp (own : List Nat) (tg : T) (src : Src) (ifs : List E) (elt : E)
  | dcomp (own : List Nat) (tg : T) (src : Src) (t : Bool) (k v : E)
  | cell (e : E)
  /-- a dict of one pair -/
  | d1 (t : Bool) (k v : E)
  /-- d.get(k, v) -/
  | get (d k v : E)
  /-- tuple(range(a, b)) -/
  | trng (a b : E)
  /-- a def as a value -/
  | fn (f : Nat)
  /-- a call of what a name holds -/
  | callV (i : Nat) (es : List E)
  /-- g(lambda: body): j the table's cell, p where it lies, q the lambda's name -/
  | guard (g j p : Nat) (q : List Nat) (body : E)
  /-- isinstance(a, an own class of exceptions) -/
  | isx (a : E) (k : Nat)
  /-- x[::-1] -/
  | rev (a : E)
  /-- a comprehension over a cell's list, which stays as it is -/
  | compC (own : List Nat) (tg : T) (e : E) (ifs : List E) (elt : E)
inductive Src where
  | it (e : E)
  | rng1 (a : E)
  | rng2 (a b : E)
  | enum (e : E)
  | zip (a b : E)
  /-- two lists, within an except suite -/
  | zipL (a b : E)
end
inductive Stm where
  | asg (tg : T) (e : E)
  | par (is : List Nat) (es : List E)
  | setIx (o i e : E)
  | aug (i : Nat) (op : BOp) (e : E)
  | ext (i : Nat) (e : E)
  | expr (e : E)
  | ret (e : E)
  | retN
  | if_ (c : E) (a b : List Stm)
  | for_ (tg : T) (src : Src) (body : List Stm)
  | while_ (c : E) (body : List Stm)
  | brk | cont | pass
  | raise_ (c : Nat)
  /-- a call that may raise -/
  | xcall (e : E)
  /-- o[i] op= e, a list's item -/
  | augIx (o i : E) (op : BOp) (e : E)
  /-- for tg in a name's dict -/
  | forD (tg : T) (i : Nat) (body : List Stm)
  /-- what no run comes to -/
  | opq

structure Ctx where
  call : Nat → List Val → Sto → R Val
  con : Nat → Option Val
  base : Nat
  fuel : Nat
  /-- where the defs lie -/
  adr : Nat → Option Nat
  /-- where the classes of exceptions lie -/
  cls : Nat → Option Nat
  /-- is one class of exceptions below another -/
  sub : Nat → Nat → Option Bool
  /-- what a def that catches hands back: where nothing is raised, where class k is -/
  gok : Nat → Option Val
  gx : Nat → Nat → Option Val
  /-- the exception that is handled: its class, where it lies -/
  exn : Option (Nat × Nat) := none

def wipe (env : Env) : List Nat → Env
  | [] => env
  | i :: r => (wipe env r).set i none
def compLoop (tg : T) (test : Env → Sto → R Bool) (elt : Env → Sto → R Val) (env : Env) : List Val → Sto → R (List Val)
  | [], S => .ok [] S
  | x :: xs, S => (match bindT tg x env with
    | none => .bad
    | some env' => (test env' S).bind fun b S1 =>
      if b then (elt env' S1).bind fun v S2 => (compLoop tg test elt env xs S2).bind fun vs S3 => .ok (v.settle :: vs) S3
      else compLoop tg test elt env xs S1)
def compLoopC (n : Nat) (all : List Val) (tg : T) (test : Env → Sto → R Bool) (elt : Env → Sto → R Val) (env : Env) : List Val → Sto → R (List Val)
  | [], S => if cellIs S n all then .ok [] S else .bad
  | x :: xs, S => if cellIs S n all then (match bindT tg x env with
    | none => .bad
    | some env' => (test env' S).bind fun b S1 =>
      if b then (elt env' S1).bind fun v S2 => (compLoopC n all tg test elt env xs S2).bind fun vs S3 => .ok (v.settle :: vs) S3
      else compLoopC n all tg test elt env xs S1) else .bad
def dcompLoop (tg : T) (t : Bool) (kf vf : Env → Sto → R Val) (env : Env) : List Val → List (Val × Val) → Sto → R (List (Val × Val))
  | [], acc, S => .ok acc S
  | x :: xs, acc, S => (match bindT tg x env with
    | none => .bad
    | some env' => (kf env' S).bind fun k S1 => (vf env' S1).bind fun v S2 =>
      if k.isKey t then dcompLoop tg t kf vf env xs (dPut k v.settle acc) S2 else .bad)
def enumFrom : Nat → List Val → List Val
  | _, [] => []
  | n, x :: xs => .tup [.int n, x] :: enumFrom (n + 1) xs
def zipV : List Val → List Val → List Val
  | x :: xs, y :: ys => .tup [x, y] :: zipV xs ys
  | _, _ => []
def rangeV (a : Int) : Nat → List Val
  | 0 => []
  | n + 1 => .int a :: rangeV (a + 1) n
def rangeOf (S : Sto) (a b : Int) : R (List Val) := if -(2 ^ 62) ≤ a ∧ a < 2 ^ 62 ∧ -(2 ^ 62) ≤ b ∧ b < 2 ^ 62 then .ok (rangeV a (b - a).toNat) S else .bad
def walkOf (v : Val) : Option (List Val) := match v with
  | .tup xs => some xs
  | .ptup xs => some xs
  | .lst _ xs => some xs
  | .str s => some (s.map fun c => .str [c])
  | _ => none
def seqOf (v : Val) : Option (List Val) := match v with
  | .tup xs => some xs
  | .ptup xs => some xs
  | .lst _ xs => some xs
  | _ => none
/-- both lists, or both tuples -/
def twoOf (v w : Val) : Option (List Val × List Val) := match v, w with
  | .tup xs, .tup ys => some (xs, ys)
  | .ptup xs, .ptup ys => some (xs, ys)
  | .lst _ xs, .lst _ ys => some (xs, ys)
  | _, _ => none
def asBl (v : Val) (S : Sto) : R Bool := match v with
  | .bl b => .ok b S
  | _ => .bad
def asInt (v : Val) (S : Sto) : R Int := match v with
  | .int i => .ok i S
  | _ => .bad

/-- d.get(k, z) -/
def getV (S : Sto) (x k z : Val) : Option Val := match asDic S x with
  | some (t, kvs) => if k.isKey t then some ((dGet k kvs).getD z) else none
  | none => none
def listsOf (v w : Val) : Option (List Val × List Val) := match v, w with
  | .lst _ xs, .lst _ ys => some (xs, ys)
  | _, _ => none
def subOf (c : Ctx) (k : Nat) (S : Sto) : Val → R Val
  | .exn k' a => if c.exn = some (k', a) then (R.of (c.sub k' k) S).bind fun b S2 => .ok (.bl b) S2 else .bad
  | _ => .bad
def guardR (c : Ctx) (g : Nat) : R Val → R Val
  | .ok _ S => R.of (c.gok g) S
  | .exc k _ S => R.of (c.gx g k) S
  | .bad => .bad
/-- the def that a name holds -/
def fnAt (c : Ctx) (env : Env) (i : Nat) : Option Nat := match env[i]? with
  | some (some (.fn f a)) => if c.adr f = some a then some f else none
  | _ => none
def tblAt (S : Sto) (j p : Nat) (q : List Nat) : Bool := match S[j]? with
  | some (.tbl p' q') => decide (p' = p) && decide (q' = q)
  | _ => false
mutual
def evalE (c : Ctx) : E → Env → Sto → R Val
  | .var i, env, S => (match env[i]? with
    | some (some v) => .ok v S
    | _ => .bad)
  | .lit v, _, S => .ok v S
  | .con i, _, S => R.of (c.con i) S
  | .bin op a b, env, S => (evalE c a env S).bind fun x S1 => (evalE c b env S1).bind fun y S2 => R.of (QE.bin S2 op x y) S2
  | .neg a, env, S => (evalE c a env S).bind fun x S1 => (asInt x S1).bind fun i S2 => .ok (.int (-i)) S2
  | .cmp op a b, env, S => (evalE c a env S).bind fun x S1 => (evalE c b env S1).bind fun y S2 => (R.of (QE.cmp S2 op x y) S2).bind fun r S3 => .ok (.bl r) S3
  | .chain o1 o2 a b d, env, S => (evalE c a env S).bind fun x S1 => (evalE c b env S1).bind fun y S2 => (R.of (QE.cmp S2 o1 x y) S2).bind fun r S3 =>
      if r then (evalE c d env S3).bind fun z S4 => (R.of (QE.cmp S4 o2 y z) S4).bind fun r S5 => .ok (.bl r) S5 else .ok (.bl false) S3
  | .and es, env, S => (evalAnd c es env S).bind fun b S1 => .ok (.bl b) S1
  | .or es, env, S => (evalOr c es env S).bind fun b S1 => .ok (.bl b) S1
  | .not a, env, S => (evalE c a env S).bind fun x S1 => (asBl x S1).bind fun b S2 => .ok (.bl (!b)) S2
  | .ite t a b, env, S => (evalE c t env S).bind fun x S1 => (asBl x S1).bind fun r S2 => if r then evalE c a env S2 else evalE c b env S2
  | .tup es, env, S => (evalEs c es env S).bind fun xs S1 => if xs.length ≤ lim then .ok (.tup xs) S1 else .bad
  | .list es, env, S => (evalEs c es env S).bind fun xs S1 => if xs.length ≤ lim then .ok (.lst true xs) S1 else .bad
  | .dnew t, _, S => .ok (.dic true t []) S
  | .idx a i, env, S => (evalE c a env S).bind fun x S1 => (evalE c i env S1).bind fun y S2 => R.of (item S2 x y) S2
  | .slice a lo hi, env, S => (evalE c a env S).bind fun x S1 => (evalO c lo env S1).bind fun l S2 => (evalO c hi env S2).bind fun h S3 => R.of (QE.slice S3 x l h) S3
  | .call f es, env, S => (evalEs c es env S).bind fun xs S1 => c.call f xs S1
  | .bi b es, env, S => (evalEs c es env S).bind fun xs S1 => R.of (callBi S1 b xs) S1
  | .isi t a, env, S => (evalE c a env S).bind fun x S1 => (R.of (isTy S1 t x) S1).bind fun r S2 => .ok (.bl r) S2
  | .meth m o a, env, S => (evalE c o env S).bind fun x S1 => (R.of (recOf S1 m x) S1).bind fun _ S1 => (evalE c a env S1).bind fun v S2 => R.of (callMe S2 m x [v.settle]) S2
  | .append o a, env, S => (evalE c o env S).bind fun x S1 => (R.of (asList S1 x) S1).bind fun _ S1 => (evalE c a env S1).bind fun v S2 => QE.append c.base S2 x v.settle
  | .comp own tg src ifs elt, env, S => (evalSrc c src env S).bind fun xs S1 =>
      (compLoop tg (evalAnd c ifs) (evalE c elt) (wipe env own) xs S1).calm.bind fun ys S2 => if ys.length ≤ lim then .ok (.lst true ys) S2 else .bad
  | .dcomp own tg src t k v, env, S => (evalSrc c src env S).bind fun xs S1 =>
      (dcompLoop tg t (evalE c k) (evalE c v) (wipe env own) xs [] S1).calm.bind fun ys S2 => if xs.length ≤ lim then .ok (.dic true t ys) S2 else .bad
  | .cell e, env, S => (evalE c e env S).bind fun v S1 => newCell S1 v
  | .d1 t k v, env, S => (evalE c k env S).bind fun x S1 => (evalE c v env S1).bind fun y S2 => if x.isKey t then .ok (.dic true t [(x, y.settle)]) S2 else .bad
  | .get d k v, env, S => (evalE c d env S).bind fun x S1 => (R.of (asDic S1 x) S1).bind fun _ S1 => (evalE c k env S1).bind fun y S2 => (evalE c v env S2).bind fun z S3 => R.of (getV S3 x y z.settle) S3
  | .trng a b, env, S => (evalE c a env S).bind fun v S1 => (asInt v S1).bind fun i S2 => (evalE c b env S2).bind fun w S3 => (asInt w S3).bind fun j S4 => (rangeOf S4 i j).bind fun xs S5 => if xs.length ≤ lim then .ok (.tup xs) S5 else .bad
  | .fn f, _, S => (R.of (c.adr f) S).bind fun a S1 => .ok (.fn f a) S1
  | .callV i es, env, S => (R.of (fnAt c env i) S).bind fun f S0 => (evalEs c es env S0).bind fun xs S1 => c.call f xs S1
  | .guard g j p q body, env, S => if tblAt S j p q then guardR c g (evalX c body env S) else .bad
  | .isx a k, env, S => (evalE c a env S).bind fun x S1 => subOf c k S1 x
  | .rev a, env, S => (evalE c a env S).bind fun x S1 => R.of (revV S1 x) S1
  | .compC own tg e ifs elt, env, S => (evalE c e env S).bind fun v S1 => (R.of (cellOf S1 v) S1).bind fun p S1 =>
      (compLoopC p.1 p.2 tg (evalAnd c ifs) (evalE c elt) (wipe env own) p.2 S1).calm.bind fun ys S2 => if ys.length ≤ lim then .ok (.lst true ys) S2 else .bad
/-- a call that may raise -/
def evalX (c : Ctx) : E → Env → Sto → R Val
  | .call f es, env, S => (evalEs c es env S).calm.bind fun xs S1 => c.call f xs S1
  | .callV i es, env, S => (R.of (fnAt c env i) S).bind fun f S0 => (evalEs c es env S0).calm.bind fun xs S1 => c.call f xs S1
  | _, _, _ => .bad
/-- the items settled -/
def evalEs (c : Ctx) : List E → Env → Sto → R (List Val)
  | [], _, S => .ok [] S
  | e :: es, env, S => (evalE c e env S).bind fun x S1 => (evalEs c es env S1).bind fun xs S2 => .ok (x.settle :: xs) S2
def evalO (c : Ctx) : Option E → Env → Sto → R (Option Int)
  | none, _, S => .ok none S
  | some e, env, S => (evalE c e env S).bind fun x S1 => (asInt x S1).bind fun i S2 => .ok (some i) S2
def evalAnd (c : Ctx) : List E → Env → Sto → R Bool
  | [], _, S => .ok true S
  | e :: es, env, S => (evalE c e env S).bind fun x S1 => (asBl x S1).bind fun b S2 => if b then evalAnd c es env S2 else .ok false S2
def evalOr (c : Ctx) : List E → Env → Sto → R Bool
  | [], _, S => .ok false S
  | e :: es, env, S => (evalE c e env S).bind fun x S1 => (asBl x S1).bind fun b S2 => if b then .ok true S2 else evalOr c es env S2
def evalSrc (c : Ctx) : Src → Env → Sto → R (List Val)
  | .it e, env, S => (evalE c e env S).bind fun v S1 => R.of (walkOf v) S1
  | .rng1 a, env, S => (evalE c a env S).bind fun v S1 => (asInt v S1).bind fun i S2 => rangeOf S2 0 i
  | .rng2 a b, env, S => (evalE c a env S).bind fun v S1 => (asInt v S1).bind fun i S2 => (evalE c b env S2).bind fun w S3 => (asInt w S3).bind fun j S4 => rangeOf S4 i j
  | .enum e, env, S => (evalE c e env S).bind fun v S1 => (R.of (seqOf v) S1).bind fun xs S2 => .ok (enumFrom 0 xs) S2
  | .zip a b, env, S => (evalE c a env S).bind fun v S1 => (evalE c b env S1).bind fun w S2 => (R.of (twoOf v w) S2).bind fun p S3 => .ok (zipV p.1 p.2) S3
  | .zipL a b, env, S => (evalE c a env S).bind fun v S1 => (evalE c b env S1).bind fun w S2 => (R.of (listsOf v w) S2).bind fun p S3 => .ok (zipV p.1 p.2) S3
end

inductive Fl where
  | nx | bk | ct
  | rt (v : Val)
def forLoop (tg : T) (body : Env → Sto → R (Fl × Env)) : List Val → Env → Sto → R (Fl × Env)
  | [], env, S => .ok (.nx, env) S
  | x :: xs, env, S => (match bindT tg x env with
    | none => .bad
    | some env' => (body env' S).bind fun f S1 => match f with
      | (.nx, e) => forLoop tg body xs e S1
      | (.ct, e) => forLoop tg body xs e S1
      | (.bk, e) => .ok (.nx, e) S1
      | (.rt v, e) => .ok (.rt v, e) S1)
def whileLoop (test : Env → Sto → R Bool) (body : Env → Sto → R (Fl × Env)) : Nat → Env → Sto → R (Fl × Env)
  | 0, _, _ => .bad
  | n + 1, env, S => (test env S).bind fun b S1 => if b then (body env S1).bind fun f S2 => match f with
      | (.nx, e) => whileLoop test body n e S2
      | (.ct, e) => whileLoop test body n e S2
      | (.bk, e) => .ok (.nx, e) S2
      | (.rt v, e) => .ok (.rt v, e) S2
    else .ok (.nx, env) S1
/-- an int in a cell's list -/
def cellAt (S : Sto) (o i : Val) : Option Int := match o with
  | .ref n => (match S[n]? with
    | some (.lst xs) => (match itemOf xs i with
      | some (.int k) => some k
      | _ => none)
    | _ => none)
  | _ => none
def sumOf (op : BOp) (k : Int) (z : Val) : Option Val := match op, z with
  | .add, .int j => some (.int (k + j))
  | .sub, .int j => some (.int (k - j))
  | _, _ => none
/-- the keys of a dict that a name holds -/
def keysAt (env : Env) (i : Nat) : Option (List Val) := match env[i]? with
  | some (some (.dic _ false kvs)) => some (kvs.map fun p => p.1)
  | _ => none
/-- a loop that neither returns nor raises -/
def onlyNx (r : R (Fl × Env)) : R (Fl × Env) := match r with
  | .ok (.nx, e) S => .ok (.nx, e) S
  | _ => .bad
def setAll : List Nat → List Val → Env → Option Env
  | [], [], env => some env
  | i :: is, x :: xs, env => setAll is xs (env.set i (some x))
  | _, _, _ => none
mutual
def execS (c : Ctx) : Stm → Env → Sto → R (Fl × Env)
  | .asg tg e, env, S => (evalE c e env S).calm.bind fun v S1 => (R.of (bindT tg v env) S1).bind fun env' S2 => .ok (.nx, env') S2
  | .par is es, env, S => (evalEs c es env S).calm.bind fun xs S1 => (R.of (setAll is xs env) S1).bind fun env' S2 => .ok (.nx, env') S2
  | .setIx o i e, env, S => (evalE c e env S).calm.bind fun v S1 => (evalE c o env S1).calm.bind fun x S2 => (evalE c i env S2).calm.bind fun y S3 => (QE.setIx c.base S3 x y v).calm.bind fun _ S4 => .ok (.nx, env) S4
  | .aug i op e, env, S => (match env[i]? with
    | some (some x) => (evalE c e env S).calm.bind fun y S1 => (match x, y with
      | .int _, .int _ => (R.of (QE.bin S1 op x y) S1).bind fun z S2 => .ok (.nx, env.set i (some z.settle)) S2
      | .str _, .str _ => (R.of (QE.bin S1 op x y) S1).bind fun z S2 => .ok (.nx, env.set i (some z.settle)) S2
      | _, _ => .bad)
    | _ => .bad)
  | .ext i e, env, S => (match env[i]? with
    | some (some x) => (evalE c e env S).calm.bind fun y S1 => (QE.extend c.base S1 x y).calm.bind fun _ S2 => .ok (.nx, env) S2
    | _ => .bad)
  | .expr e, env, S => (evalE c e env S).calm.bind fun _ S1 => .ok (.nx, env) S1
  | .ret e, env, S => (evalE c e env S).calm.bind fun v S1 => .ok (.rt v, env) S1
  | .retN, env, S => .ok (.rt .non, env) S
  | .if_ t a b, env, S => (evalE c t env S).calm.bind fun x S1 => (asBl x S1).bind fun r S2 => if r then execSs c a env S2 else execSs c b env S2
  | .for_ tg src body, env, S => (evalSrc c src env S).calm.bind fun xs S1 => forLoop tg (execSs c body) xs env S1
  | .while_ t body, env, S => whileLoop (fun e S => ((evalE c t e S).bind asBl).calm) (execSs c body) c.fuel env S
  | .brk, env, S => .ok (.bk, env) S
  | .cont, env, S => .ok (.ct, env) S
  | .pass, env, S => .ok (.nx, env) S
  | .raise_ k, env, S => .exc k [] S
  | .xcall e, env, S => (evalX c e env S).bind fun _ S1 => .ok (.nx, env) S1
  | .augIx o i op e, env, S => (evalE c o env S).calm.bind fun x S1 => (evalE c i env S1).calm.bind fun y S2 => (R.of (cellAt S2 x y) S2).bind fun k S3 => (evalE c e env S3).calm.bind fun z S4 => (R.of (sumOf op k z) S4).bind fun w S5 => (QE.setIx c.base S5 x y w).calm.bind fun _ S6 => .ok (.nx, env) S6
  | .forD tg i body, env, S => (R.of (keysAt env i) S).bind fun xs S1 => onlyNx (forLoop tg (execSs c body) xs env S1)
  | .opq, _, _ => .bad
def execSs (c : Ctx) : List Stm → Env → Sto → R (Fl × Env)
  | [], env, S => .ok (.nx, env) S
  | s :: ss, env, S => (execS c s env S).bind fun f S1 => match f with
    | (.nx, e) => execSs c ss e S1
    | (f, e) => .ok (f, e) S1
end

structure Def where
  arity : Nat
  size : Nat
  body : List Stm
structure Prog where
  fns : List Def
  con : List Val
  fuel : Nat
  adr : List Nat := []
  cls : List Nat := []
  sub : List (List Bool) := []
  /-- the defs that catch: what they hand back -/
  grd : List (Nat × Val × List (Option Val)) := []
def ctxOf (P : Prog) (call : Nat → List Val → Sto → R Val) (base : Nat) : Ctx where
  call := call
  con := fun i => P.con[i]?
  base := base
  fuel := P.fuel
  adr := fun f => P.adr[f]?
  cls := fun k => P.cls[k]?
  sub := fun a b => (P.sub[a]?).bind fun r => r[b]?
  gok := fun g => (P.grd.lookup g).map fun t => t.1
  gx := fun g k => (P.grd.lookup g).bind fun t => (t.2[k]?).bind id
def finish (b : Nat) (r : R (Fl × Env)) : R Val := match r with
  | .ok (.rt v, _) S => if S.length ≤ b then .ok v S else (match freeze b S v with
    | some w => .ok w (S.take b)
    | none => .ok v S)
  | .ok (.nx, _) S => .ok .non (S.take b)
  | .ok _ _ => .bad
  | .exc c p S => .exc c p (S.take b)
  | .bad => .bad
def callFn (P : Prog) : Nat → Nat → List Val → Sto → R Val
  | 0, _, _, _ => .bad
  | k + 1, f, vs, S => (match P.fns[f]? with
    | none => .bad
    | some d => if vs.length = d.arity then
        finish S.length (execSs (ctxOf P (callFn P k) S.length) d.body (vs.map some ++ List.replicate (d.size - d.arity) none) S)
      else .bad)
end QE

set_option Elab.async false
set_option linter.all false
set_option maxRecDepth 10000
set_option maxHeartbeats 1000000
/-! What the evaluator's values and stores stand for. -/
namespace QE
open PySem PySem.Spec PyProof.Rows L2

def strOf (s : List Nat) : Str := ⟨s.toArray⟩
theorem strOf_list (s : List Nat) : (strOf s).cps.toList = s := by simp [strOf]
theorem strOf_len (s : List Nat) : (strOf s).length = s.length := by simp [strOf, Str.length]
theorem strOf_inj {s t : List Nat} (h : strOf s = strOf t) : s = t := by rw [← strOf_list s, h, strOf_list]
theorem strOf_tl (x : Str) : strOf x.cps.toList = x := by cases x; simp [strOf]

/-- a key of a dict, as the layer has it -/
def keyOf : Val → L2.Key
  | .int i => .inl i
  | .str s => .inr (strOf s)
  | _ => .inl 0
def keysOf : Val → List L2.Key
  | .tup xs => xs.map keyOf
  | _ => []

/-- what may be read at a; a fresh one is not frozen -/
def RdF (f : Bool) (H : Hp) (a : Addr) (u : HO) : Prop := match f with
  | true => H a = some u
  | false => Rd H a u
theorem RdF.rd {f : Bool} {H : Hp} {a : Addr} {u : HO} (h : RdF f H a u) : Rd H a u := by
  cases f with
  | true => exact .inl h
  | false => exact h
theorem RdF.of {f : Bool} {H : Hp} {a : Addr} {u : HO} (h : H a = some u) : RdF f H a u := by
  cases f with
  | true => exact h
  | false => exact .inl h
/-- a list of the written part -/
def KLs (K : PySem.W.Frag) (a : Addr) (vs : List V) : Prop := ∃ (o : Obj) (its : Array Value) (n : Nat), K.lookup a = some o ∧ o.cls = .type "list" ∧ o.dict = none ∧ o.data = .seq its n ∧ its.size ≤ sizeLine ∧ Vals vs its.toList
/-- a tuple that has no dict of its own -/
def PlainT (H : Hp) (a : Addr) (vs : List V) : Prop := ∃ o : Obj, H a = some (.frz o (.tup vs)) ∧ o.dict = none
theorem PlainT.rd {H : Hp} {a : Addr} {vs : List V} (h : PlainT H a vs) : Rd H a (.tup vs) := by
  obtain ⟨o, h1, _⟩ := h
  exact .inr ⟨o, h1⟩
mutual
def Rep (K : PySem.W.Frag) (hid ρ : List Addr) (H : Hp) : Val → V → Prop
  | .non, v => v = .non
  | .bl b, v => v = .bl b
  | .int i, v => v = .int i
  | .str s, v => v = .str (strOf s)
  | .tup xs, v => ∃ a vs, v = .ref a ∧ H a = some (.tup vs) ∧ RepL K hid ρ H xs vs
  | .lst f xs, v => ∃ a vs, v = .ref a ∧ RdF f H a (.lst vs) ∧ a ∉ ρ ∧ a ∉ hid ∧ RepL K hid ρ H xs vs
  | .dic f true kvs, v => ∃ a ws, v = .ref a ∧ RdF f H a (.dT ws) ∧ a ∉ ρ ∧ a ∉ hid ∧ RepT K hid ρ H kvs ws
  | .dic f false kvs, v => ∃ a ws, v = .ref a ∧ RdF f H a (.dK ws) ∧ a ∉ ρ ∧ a ∉ hid ∧ RepK K hid ρ H kvs ws
  | .ref n, v => ∃ a, ρ[n]? = some a ∧ v = .ref a
  | .kls ns, v => ∃ a, v = .ref a ∧ KLs K a (ns.map V.int)
  | .fn _ a, v => v = .ref a
  | .exn _ a, v => v = .ref a
  | .ptup xs, v => ∃ a vs, v = .ref a ∧ PlainT H a vs ∧ RepL K hid ρ H xs vs
def RepL (K : PySem.W.Frag) (hid ρ : List Addr) (H : Hp) : List Val → List V → Prop
  | [], vs => vs = []
  | x :: xs, vs => ∃ v r, vs = v :: r ∧ (x.st = true ∧ Rep K hid ρ H x v) ∧ RepL K hid ρ H xs r
def RepK (K : PySem.W.Frag) (hid ρ : List Addr) (H : Hp) : List (Val × Val) → List (L2.Key × V) → Prop
  | [], ws => ws = []
  | (k, x) :: xs, ws => ∃ v r, ws = (keyOf k, v) :: r ∧ k.flatKey = true ∧ (x.st = true ∧ Rep K hid ρ H x v) ∧ RepK K hid ρ H xs r
def RepT (K : PySem.W.Frag) (hid ρ : List Addr) (H : Hp) : List (Val × Val) → List (List L2.Key × V) → Prop
  | [], ws => ws = []
  | (k, x) :: xs, ws => ∃ v r, ws = (keysOf k, v) :: r ∧ k.isKey true = true ∧ (x.st = true ∧ Rep K hid ρ H x v) ∧ RepT K hid ρ H xs r
end

def ObRep (K : PySem.W.Frag) (hid ρ : List Addr) (H : Hp) (a : Addr) : Ob → Prop
  | .lst xs => ∃ vs, H a = some (.lst vs) ∧ RepL K hid ρ H xs vs
  | .dic true kvs => ∃ ws, H a = some (.dT ws) ∧ RepT K hid ρ H kvs ws
  | .dic false kvs => ∃ ws, H a = some (.dK ws) ∧ RepK K hid ρ H kvs ws
  | .tbl p q => a = p ∧ ∃ ps : Array Value, H p = some (.tbl ps) ∧ TriplesOk ps.toList ∧ ∀ (pos : Pos) (cv : Value), codeAmong pos ps.toList = some cv → ∃ c, cv = .ref c ∧ c ∉ ρ ∧ H c = some (LamX.CodeO c (strOf q))

/-- no table of code objects -/
def NT (o : HO) : Prop := ∀ ps, o ≠ .tbl ps
/-- nothing there but, it may be, a table -/
def Gone (H : Hp) (a : Addr) : Prop := ∀ o, H a = some o → ∃ ps, o = .tbl ps
theorem Gone.of {H : Hp} {a : Addr} (h : H a = none) : Gone H a := fun o e => by rw [h] at e; cases e
structure SOk (K : PySem.W.Frag) (hid ρ : List Addr) (H : Hp) (S : Sto) : Prop where
  len : ρ.length = S.length
  nd : ρ.Nodup
  apart : ∀ a ∈ ρ, a ∉ hid
  hidd : ∀ a ∈ hid, ∃ o, H a = some o ∧ NT o
  ob : ∀ (n : Nat) (o : Ob), S[n]? = some o → ∃ a, ρ[n]? = some a ∧ ObRep K hid ρ H a o

/-- what may have become of the heap -/
structure Ext (ρ : List Addr) (H : Hp) (ρ' : List Addr) (H' : Hp) : Prop where
  more : ∃ new, ρ' = ρ ++ new ∧ ∀ b ∈ new, Gone H b
  keep0 : ∀ b o, H b = some o → b ∉ ρ → NT o → H' b = some o
  there0 : ∀ b o, H b = some o → NT o → ∃ o', H' b = some o' ∧ NT o'
  tups : ∀ b xs, H b = some (.tup xs) → H' b = some (.tup xs)
  frzs : ∀ b o u, H b = some (.frz o u) → H' b = some (.frz o u)
theorem Ext.keep {ρ ρ' : List Addr} {H H' : Hp} (e : Ext ρ H ρ' H') (b : Addr) (o : HO) (h : H b = some o) (hb : b ∉ ρ) (n : NT o := by intro _ z; cases z) : H' b = some o := e.keep0 b o h hb n
theorem Ext.refl (ρ : List Addr) (H : Hp) : Ext ρ H ρ H :=
  ⟨⟨[], by simp, by simp⟩, fun _ _ h _ _ => h, fun _ o h n => ⟨o, h, n⟩, fun _ _ h => h, fun _ _ _ h => h⟩
theorem Ext.free {ρ ρ' : List Addr} {H H' : Hp} (e : Ext ρ H ρ' H') {a : Addr} (h : Gone H' a) : Gone H a := fun o q => by
  apply Classical.byContradiction
  intro n
  obtain ⟨o', r, n'⟩ := e.there0 a o q fun ps z => n ⟨ps, z⟩
  obtain ⟨ps, z⟩ := h o' r
  exact n' ps z
theorem Gone.nt {H : Hp} {a : Addr} (h : Gone H a) {o : HO} (e : H a = some o) (n : NT o) : False := by
  obtain ⟨ps, z⟩ := h o e
  exact n ps z
theorem Ext.trans {ρ ρ1 ρ2 : List Addr} {H H1 H2 : Hp} (e : Ext ρ H ρ1 H1) (f : Ext ρ1 H1 ρ2 H2) : Ext ρ H ρ2 H2 := by
  obtain ⟨n1, q1, k1⟩ := e.more
  obtain ⟨n2, q2, k2⟩ := f.more
  refine ⟨⟨n1 ++ n2, by rw [q2, q1, List.append_assoc], fun b hb => ?_⟩, fun b o h hb n => ?_, fun b o h n => ?_, fun b xs h => f.tups b xs (e.tups b xs h), fun b o u h => f.frzs b o u (e.frzs b o u h)⟩
  · rcases List.mem_append.mp hb with hb | hb
    · exact k1 b hb
    · exact e.free (k2 b hb)
  · have h1 := e.keep0 b o h hb n
    refine f.keep0 b o h1 (fun z => ?_) n
    rw [q1] at z
    rcases List.mem_append.mp z with z | z
    · exact hb z
    · exact (k1 b z).nt h n
  · obtain ⟨o1, h1, n1⟩ := e.there0 b o h n
    exact f.there0 b o1 h1 n1
/-- a new object -/
theorem Ext.new {ρ : List Addr} {H : Hp} {p : Addr} {o : HO} (h : H p = none) : Ext ρ H ρ (upd H p o) := by
  have ne : ∀ b u, H b = some u → b ≠ p := fun b u e => ne_of_none e h
  exact ⟨⟨[], by simp, by simp⟩, fun b u e _ _ => by rw [upd_ne (ne b u e)]; exact e, fun b u e n => ⟨u, by rw [upd_ne (ne b u e)]; exact e, n⟩,
    fun b xs e => by rw [upd_ne (ne b _ e)]; exact e, fun b u w e => by rw [upd_ne (ne b _ e)]; exact e⟩
theorem Ext.at_ {ρ ρ' : List Addr} {H H' : Hp} (e : Ext ρ H ρ' H') {n : Nat} {a : Addr} (h : ρ[n]? = some a) : ρ'[n]? = some a := by
  obtain ⟨new, q, _⟩ := e.more
  rw [q, List.getElem?_append_left (List.getElem?_eq_some_iff.mp h).1]
  exact h
theorem Ext.notin {ρ ρ' : List Addr} {H H' : Hp} (e : Ext ρ H ρ' H') {a : Addr} (h : a ∉ ρ) (o : ∃ u, H a = some u ∧ NT u) : a ∉ ρ' := by
  obtain ⟨new, q, k⟩ := e.more
  rw [q]
  intro z
  rcases List.mem_append.mp z with z | z
  · exact h z
  · obtain ⟨u, hu, n⟩ := o
    exact (k a z).nt hu n
theorem rd_there {H : Hp} {a : Addr} {u : HO} (n : NT u) (r : Rd H a u) : ∃ w, H a = some w ∧ NT w := by
  rcases r with r | ⟨o, r⟩
  · exact ⟨_, r, n⟩
  · exact ⟨_, r, fun _ z => by cases z⟩
theorem Ext.rd {ρ ρ' : List Addr} {H H' : Hp} (e : Ext ρ H ρ' H') {a : Addr} {u : HO} (h : a ∉ ρ) (r : Rd H a u) (n : NT u := by intro _ z; cases z) : Rd H' a u := by
  rcases r with r | ⟨o, r⟩
  · exact .inl (e.keep0 _ _ r h n)
  · exact .inr ⟨o, e.keep _ _ r h⟩
theorem Ext.sqT {K : PySem.W.Frag} {ρ ρ' : List Addr} {H H' : Hp} (e : Ext ρ H ρ' H') {a : Addr} {xs : List V} (r : SqT K H a xs) : SqT K H' a xs := by
  rcases r with (r | ⟨o, r⟩) | r
  · exact .inl (.inl (e.tups _ _ r))
  · exact .inl (.inr ⟨o, e.frzs _ _ _ r⟩)
  · exact .inr r

theorem Ext.rdF {ρ ρ' : List Addr} {H H' : Hp} (e : Ext ρ H ρ' H') {f : Bool} {a : Addr} {u : HO} (h : a ∉ ρ) (r : RdF f H a u) (n : NT u := by intro _ z; cases z) : RdF f H' a u := by
  cases f with
  | true => exact e.keep0 _ _ r h n
  | false => exact e.rd h r n
theorem ntL {vs : List V} : NT (.lst vs) := fun _ z => by cases z
theorem ntT {ws : List (List L2.Key × V)} : NT (.dT ws) := fun _ z => by cases z
theorem ntK {ws : List (L2.Key × V)} : NT (.dK ws) := fun _ z => by cases z
section
variable {K : PySem.W.Frag} {hid ρ ρ' : List Addr} {H H' : Hp}
mutual
theorem Rep.mono (e : Ext ρ H ρ' H') : ∀ (x : Val) (v : V), Rep K hid ρ H x v → Rep K hid ρ' H' x v
  | .non, v, h => by simp only [Rep] at h ⊢; exact h
  | .bl b, v, h => by simp only [Rep] at h ⊢; exact h
  | .int i, v, h => by simp only [Rep] at h ⊢; exact h
  | .str s, v, h => by simp only [Rep] at h ⊢; exact h
  | .tup xs, v, h => by
    simp only [Rep] at h ⊢
    obtain ⟨a, vs, h1, h2, h3⟩ := h
    exact ⟨a, vs, h1, e.tups _ _ h2, RepL.mono e xs vs h3⟩
  | .lst f xs, v, h => by
    simp only [Rep] at h ⊢
    obtain ⟨a, vs, h1, h2, h3, h4, h5⟩ := h
    exact ⟨a, vs, h1, e.rdF h3 h2, e.notin h3 (rd_there ntL h2.rd), h4, RepL.mono e xs vs h5⟩
  | .dic f true kvs, v, h => by
    simp only [Rep] at h ⊢
    obtain ⟨a, vs, h1, h2, h3, h4, h5⟩ := h
    exact ⟨a, vs, h1, e.rdF h3 h2, e.notin h3 (rd_there ntT h2.rd), h4, RepT.mono e kvs vs h5⟩
  | .dic f false kvs, v, h => by
    simp only [Rep] at h ⊢
    obtain ⟨a, vs, h1, h2, h3, h4, h5⟩ := h
    exact ⟨a, vs, h1, e.rdF h3 h2, e.notin h3 (rd_there ntK h2.rd), h4, RepK.mono e kvs vs h5⟩
  | .ref n, v, h => by
    simp only [Rep] at h ⊢
    obtain ⟨a, h1, h2⟩ := h
    exact ⟨a, e.at_ h1, h2⟩
  | .kls ns, v, h => by simp only [Rep] at h ⊢; exact h
  | .fn _ _, v, h => by simp only [Rep] at h ⊢; exact h
  | .exn _ _, v, h => by simp only [Rep] at h ⊢; exact h
  | .ptup xs, v, h => by
    simp only [Rep] at h ⊢
    obtain ⟨a, vs, h1, ⟨o, h2, h4⟩, h3⟩ := h
    exact ⟨a, vs, h1, ⟨o, e.frzs _ _ _ h2, h4⟩, RepL.mono e xs vs h3⟩
theorem RepL.mono (e : Ext ρ H ρ' H') : ∀ (xs : List Val) (vs : List V), RepL K hid ρ H xs vs → RepL K hid ρ' H' xs vs
  | [], vs, h => by simp only [RepL] at h ⊢; exact h
  | x :: xs, vs, h => by
    simp only [RepL] at h ⊢
    obtain ⟨v, r, h1, h2, h3⟩ := h
    exact ⟨v, r, h1, ⟨h2.1, Rep.mono e x v h2.2⟩, RepL.mono e xs r h3⟩
theorem RepK.mono (e : Ext ρ H ρ' H') : ∀ (xs : List (Val × Val)) (ws : List (L2.Key × V)), RepK K hid ρ H xs ws → RepK K hid ρ' H' xs ws
  | [], vs, h => by simp only [RepK] at h ⊢; exact h
  | (k, x) :: xs, vs, h => by
    simp only [RepK] at h ⊢
    obtain ⟨v, r, h1, h4, h2, h3⟩ := h
    exact ⟨v, r, h1, h4, ⟨h2.1, Rep.mono e x v h2.2⟩, RepK.mono e xs r h3⟩
theorem RepT.mono (e : Ext ρ H ρ' H') : ∀ (xs : List (Val × Val)) (ws : List (List L2.Key × V)), RepT K hid ρ H xs ws → RepT K hid ρ' H' xs ws
  | [], vs, h => by simp only [RepT] at h ⊢; exact h
  | (k, x) :: xs, vs, h => by
    simp only [RepT] at h ⊢
    obtain ⟨v, r, h1, h4, h2, h3⟩ := h
    exact ⟨v, r, h1, h4, ⟨h2.1, Rep.mono e x v h2.2⟩, RepT.mono e xs r h3⟩
end
theorem Rep.settle {x : Val} {v : V} (h : Rep K hid ρ H x v) : Rep K hid ρ H x.settle v := by
  cases x with
  | lst f xs =>
    simp only [Val.settle, Rep] at h ⊢
    obtain ⟨a, vs, h1, h2, h3⟩ := h
    exact ⟨a, vs, h1, h2.rd, h3⟩
  | dic f t kvs => cases t <;> (simp only [Val.settle, Rep] at h ⊢; obtain ⟨a, vs, h1, h2, h3⟩ := h; exact ⟨a, vs, h1, h2.rd, h3⟩)
  | _ => exact h
theorem RepL.length : ∀ {xs : List Val} {vs : List V}, RepL K hid ρ H xs vs → vs.length = xs.length
  | [], vs, h => by simp only [RepL] at h; rw [h]; rfl
  | x :: xs, vs, h => by
    simp only [RepL] at h
    obtain ⟨v, r, h1, h2, h3⟩ := h
    rw [h1, List.length_cons, List.length_cons, RepL.length h3]
theorem RepL.nil : RepL K hid ρ H [] [] := by simp only [RepL]
theorem RepL.cons {x : Val} {v : V} {xs : List Val} {vs : List V} (h : x.st = true ∧ Rep K hid ρ H x v) (r : RepL K hid ρ H xs vs) : RepL K hid ρ H (x :: xs) (v :: vs) := by
  simp only [RepL]; exact ⟨v, vs, rfl, h, r⟩
theorem RepL.app : ∀ {xs ys : List Val} {vs ws : List V}, RepL K hid ρ H xs vs → RepL K hid ρ H ys ws → RepL K hid ρ H (xs ++ ys) (vs ++ ws)
  | [], _, vs, _, h, r => by simp only [RepL] at h; subst h; exact r
  | x :: xs, _, vs, _, h, r => by
    simp only [RepL] at h
    obtain ⟨v, w, h1, h2, h3⟩ := h
    subst h1
    exact RepL.cons h2 (RepL.app h3 r)
theorem RepL.get : ∀ {xs : List Val} {vs : List V} {i : Nat} {x : Val}, RepL K hid ρ H xs vs → xs[i]? = some x → ∃ v, vs[i]? = some v ∧ x.st = true ∧ Rep K hid ρ H x v
  | [], _, _, _, _, e => by simp at e
  | y :: xs, vs, 0, x, h, e => by
    simp only [RepL] at h
    obtain ⟨v, w, h1, h2, h3⟩ := h
    subst h1
    simp at e
    subst e
    exact ⟨v, rfl, h2⟩
  | y :: xs, vs, i + 1, x, h, e => by
    simp only [RepL] at h
    obtain ⟨v, w, h1, h2, h3⟩ := h
    subst h1
    simpa using RepL.get (i := i) h3 (by simpa using e)
theorem RepL.set {x : Val} {v : V} (q : x.st = true ∧ Rep K hid ρ H x v) : ∀ {xs : List Val} {vs : List V} (i : Nat), RepL K hid ρ H xs vs → RepL K hid ρ H (xs.set i x) (vs.set i v)
  | [], vs, i, h => by simp only [RepL] at h; subst h; simp [RepL]
  | y :: xs, vs, 0, h => by
    simp only [RepL] at h
    obtain ⟨w, r, h1, h2, h3⟩ := h
    subst h1
    exact RepL.cons q h3
  | y :: xs, vs, i + 1, h => by
    simp only [RepL] at h
    obtain ⟨w, r, h1, h2, h3⟩ := h
    subst h1
    exact RepL.cons h2 (RepL.set q i h3)
theorem RepL.take : ∀ {xs : List Val} {vs : List V} (n : Nat), RepL K hid ρ H xs vs → RepL K hid ρ H (xs.take n) (vs.take n)
  | _, _, 0, _ => by simp [RepL]
  | [], vs, n + 1, h => by simp only [RepL] at h; subst h; simp [RepL]
  | y :: xs, vs, n + 1, h => by
    simp only [RepL] at h
    obtain ⟨w, r, h1, h2, h3⟩ := h
    subst h1
    exact RepL.cons h2 (RepL.take n h3)
theorem RepL.drop : ∀ {xs : List Val} {vs : List V} (n : Nat), RepL K hid ρ H xs vs → RepL K hid ρ H (xs.drop n) (vs.drop n)
  | _, _, 0, h => h
  | [], vs, n + 1, h => by simp only [RepL] at h; subst h; simp [RepL]
  | y :: xs, vs, n + 1, h => by
    simp only [RepL] at h
    obtain ⟨w, r, h1, h2, h3⟩ := h
    subst h1
    exact RepL.drop n h3
end

/-! ### fresh values -/
/-- nobody knows it yet: it may become a cell -/
def Fresh (K : PySem.W.Frag) (hid ρ' : List Addr) (H' : Hp) (S' : Sto) (H : Hp) (x : Val) (v : V) : Prop := match x with
  | .lst true xs => ∃ a, v = .ref a ∧ Gone H a ∧ SOk K hid (ρ' ++ [a]) H' (S' ++ [.lst xs])
  | .dic true t kvs => ∃ a, v = .ref a ∧ Gone H a ∧ SOk K hid (ρ' ++ [a]) H' (S' ++ [.dic t kvs])
  | _ => True
theorem Fresh.anti {K : PySem.W.Frag} {hid ρ2 ρ ρ' : List Addr} {H2 H H' : Hp} {S : Sto} {x : Val} {v : V} (e : Ext ρ H ρ' H') (h : Fresh K hid ρ2 H2 S H' x v) : Fresh K hid ρ2 H2 S H x v := by
  unfold Fresh at h ⊢
  split at h
  · obtain ⟨a, h1, h2, h3⟩ := h; exact ⟨a, h1, e.free h2, h3⟩
  · obtain ⟨a, h1, h2, h3⟩ := h; exact ⟨a, h1, e.free h2, h3⟩
  · trivial

theorem st_settle (x : Val) : x.settle.st = true := by cases x <;> rfl
theorem Fresh.of_st {K : PySem.W.Frag} {hid ρ2 : List Addr} {H2 H : Hp} {S : Sto} {x : Val} {v : V} (h : x.st = true) : Fresh K hid ρ2 H2 S H x v := by
  unfold Fresh
  split
  · cases h
  · cases h
  · trivial
/-! ### the evaluator's names -/
structure ERep (K : PySem.W.Frag) (hid ρ : List Addr) (H : Hp) (env : Env) (σ : L2.St) : Prop where
  len : σ.length = env.length
  at_ : ∀ (i : Nat) (x : Val), env[i]? = some (some x) → ∃ v, σ[i]? = some (some v) ∧ x.st = true ∧ Rep K hid ρ H x v
theorem ERep.mono {K : PySem.W.Frag} {hid ρ ρ' : List Addr} {H H' : Hp} {env : Env} {σ : L2.St} (h : ERep K hid ρ H env σ) (e : Ext ρ H ρ' H') : ERep K hid ρ' H' env σ :=
  ⟨h.len, fun i x q => let ⟨v, a, st, b⟩ := h.at_ i x q; ⟨v, a, st, Rep.mono e x v b⟩⟩
theorem ERep.set {K : PySem.W.Frag} {hid ρ : List Addr} {H : Hp} {env : Env} {σ : L2.St} (h : ERep K hid ρ H env σ) (i : Nat) {x : Val} {v : V} (st : x.st = true) (r : Rep K hid ρ H x v) : ERep K hid ρ H (env.set i (some x)) (σ.set i (some v)) := by
  refine ⟨by simp [h.len], fun j y q => ?_⟩
  by_cases hj : i = j
  · subst hj
    have hi : i < env.length := by
      have := (List.getElem?_eq_some_iff.mp q).1
      simpa using this
    rw [List.getElem?_set_self hi] at q
    cases q
    exact ⟨v, List.getElem?_set_self (by rw [h.len]; exact hi), st, r⟩
  · rw [List.getElem?_set_ne hj] at q ⊢
    exact h.at_ j y q
theorem ERep.wipe {K : PySem.W.Frag} {hid ρ : List Addr} {H : Hp} {env : Env} {σ : L2.St} (h : ERep K hid ρ H env σ) : ∀ is : List Nat, ERep K hid ρ H (QE.wipe env is) (L2.wipe σ is)
  | [] => h
  | i :: is => by
    have r := ERep.wipe h is
    refine ⟨by simp [QE.wipe, L2.wipe, r.len], fun j y q => ?_⟩
    unfold QE.wipe at q
    unfold L2.wipe
    by_cases hj : i = j
    · subst hj
      by_cases hi : i < (QE.wipe env is).length
      · rw [List.getElem?_set_self hi] at q; cases q
      · rw [List.getElem?_eq_none (by simpa using hi)] at q; cases q
    · rw [List.getElem?_set_ne hj] at q ⊢
      exact r.at_ j y q

/-! ### what a run comes to -/
def Out {α : Type} (K : PySem.W.Frag) (hid ρ : List Addr) (H : Hp) (r : R α) (G : α → Sto → List Addr → Hp → Prop) : Prop := match r with
  | .ok a S' => ∀ ρ' H', Ext ρ H ρ' H' → SOk K hid ρ' H' S' → G a S' ρ' H'
  | .exc _ _ _ => False
  | .bad => False
section
variable {K : PySem.W.Frag} {hid ρ ρ1 : List Addr} {H H1 : Hp} {α β : Type}
theorem Out.ext {r : R α} {G : α → Sto → List Addr → Hp → Prop} (h : Out K hid ρ H r G) (e : Ext ρ H ρ1 H1) : Out K hid ρ1 H1 r G := by
  cases r with
  | ok a S => exact fun ρ' H' e' s' => h ρ' H' (e.trans e') s'
  | exc _ _ _ => exact h.elim
  | bad => exact h.elim
theorem Out.mono {r : R α} {G G' : α → Sto → List Addr → Hp → Prop} (h : Out K hid ρ H r G) (g : ∀ a S' ρ' H', Ext ρ H ρ' H' → G a S' ρ' H' → G' a S' ρ' H') : Out K hid ρ H r G' := by
  cases r with
  | ok a S => exact fun ρ' H' e' s' => g a _ ρ' H' e' (h ρ' H' e' s')
  | exc _ _ _ => exact h.elim
  | bad => exact h.elim
/-- the first part of a run came to a value -/
theorem Out.bind {r : R α} {f : α → Sto → R β} {G : β → Sto → List Addr → Hp → Prop} (h : Out K hid ρ H (r.bind f) G) :
    ∃ a S, r = .ok a S ∧ ∀ ρ' H', Ext ρ H ρ' H' → Out K hid ρ' H' (f a S) G := by
  cases r with
  | ok a S => exact ⟨a, S, rfl, fun ρ' H' e => Out.ext h e⟩
  | exc _ _ _ => exact h.elim
  | bad => exact h.elim
theorem Out.pure {a : α} {S : Sto} {G : α → Sto → List Addr → Hp → Prop} (h : Out K hid ρ H (.ok a S) G) (s : SOk K hid ρ H S) : G a S ρ H := h ρ H (Ext.refl ρ H) s
theorem Out.of {o : Option α} {S : Sto} {G : α → Sto → List Addr → Hp → Prop} (h : Out K hid ρ H (R.of o S) G) : ∃ a, o = some a ∧ Out K hid ρ H (.ok a S) G := by
  cases o with
  | some a => exact ⟨a, rfl, h⟩
  | none => exact h.elim
end

/-- an expression's reading, by the evaluator -/
def tE (K : PySem.W.Frag) (c : Ctx) (e : E) : TE := fun σ H Q => ∃ hid ρ env S, ERep K hid ρ H env σ ∧ SOk K hid ρ H S ∧
  Out K hid ρ H (evalE c e env S) fun x S' ρ' H' => ∀ v, Rep K hid ρ' H' x v → Fresh K hid ρ' H' S' H x v → Q v H'
def tEs (K : PySem.W.Frag) (c : Ctx) (es : List E) : TA := fun σ H Q => ∃ hid ρ env S, ERep K hid ρ H env σ ∧ SOk K hid ρ H S ∧
  Out K hid ρ H (evalEs c es env S) fun xs _ ρ' H' => ∀ vs, RepL K hid ρ' H' xs vs → Q vs H'
def tT (K : PySem.W.Frag) (c : Ctx) (e : E) : TT := fun σ H Q => ∃ hid ρ env S, ERep K hid ρ H env σ ∧ SOk K hid ρ H S ∧
  Out K hid ρ H (evalE c e env S) fun x _ _ H' => ∃ b, x = .bl b ∧ Q b H'
/-- a list of tests, all of them or one of them -/
def tBs (f : List E → Env → Sto → R Bool) (K : PySem.W.Frag) (es : List E) : TT := fun σ H Q => ∃ hid ρ env S, ERep K hid ρ H env σ ∧ SOk K hid ρ H S ∧
  Out K hid ρ H (f es env S) fun b _ _ H' => Q b H'

/-- how a first part is read -/
theorem tE.of {K : PySem.W.Frag} {c : Ctx} {e : E} {hid ρ : List Addr} {H : Hp} {env : Env} {S : Sto} {σ : L2.St} {β : Type} {f : Val → Sto → R β} {G : β → Sto → List Addr → Hp → Prop} {Q : VK}
    (he : ERep K hid ρ H env σ) (hs : SOk K hid ρ H S) (h : Out K hid ρ H ((evalE c e env S).bind f) G)
    (k : ∀ x S1 ρ1 H1 v, Ext ρ H ρ1 H1 → SOk K hid ρ1 H1 S1 → Rep K hid ρ1 H1 x v → Fresh K hid ρ1 H1 S1 H x v → Out K hid ρ1 H1 (f x S1) G → Q v H1) : tE K c e σ H Q := by
  obtain ⟨x, S1, q, hk⟩ := h.bind
  refine ⟨hid, ρ, env, S, he, hs, ?_⟩
  rw [q]
  exact fun ρ1 H1 e1 s1 v r fr => k x S1 ρ1 H1 v e1 s1 r fr (hk ρ1 H1 e1)
theorem tEs.of {K : PySem.W.Frag} {c : Ctx} {es : List E} {hid ρ : List Addr} {H : Hp} {env : Env} {S : Sto} {σ : L2.St} {β : Type} {f : List Val → Sto → R β} {G : β → Sto → List Addr → Hp → Prop} {Q : List V → Hp → Prop}
    (he : ERep K hid ρ H env σ) (hs : SOk K hid ρ H S) (h : Out K hid ρ H ((evalEs c es env S).bind f) G)
    (k : ∀ xs S1 ρ1 H1 vs, Ext ρ H ρ1 H1 → SOk K hid ρ1 H1 S1 → RepL K hid ρ1 H1 xs vs → Out K hid ρ1 H1 (f xs S1) G → Q vs H1) : tEs K c es σ H Q := by
  obtain ⟨x, S1, q, hk⟩ := h.bind
  refine ⟨hid, ρ, env, S, he, hs, ?_⟩
  rw [q]
  exact fun ρ1 H1 e1 s1 v r => k x S1 ρ1 H1 v e1 s1 r (hk ρ1 H1 e1)
theorem asBl_ok {x : Val} {S : Sto} {b : Bool} {S' : Sto} (h : asBl x S = .ok b S') : x = .bl b ∧ S' = S := by
  cases x <;> simp only [asBl] at h <;> cases h
  exact ⟨rfl, rfl⟩
theorem asInt_ok {x : Val} {S : Sto} {b : Int} {S' : Sto} (h : asInt x S = .ok b S') : x = .int b ∧ S' = S := by
  cases x <;> simp only [asInt] at h <;> cases h
  exact ⟨rfl, rfl⟩
/-- how a test is read -/
theorem tT.of {K : PySem.W.Frag} {c : Ctx} {e : E} {hid ρ : List Addr} {H : Hp} {env : Env} {S : Sto} {σ : L2.St} {β : Type} {f : Bool → Sto → R β} {G : β → Sto → List Addr → Hp → Prop} {Q : Bool → Hp → Prop}
    (he : ERep K hid ρ H env σ) (hs : SOk K hid ρ H S) (h : Out K hid ρ H ((evalE c e env S).bind fun x S1 => (asBl x S1).bind f) G)
    (k : ∀ b S1 ρ1 H1, Ext ρ H ρ1 H1 → SOk K hid ρ1 H1 S1 → Out K hid ρ1 H1 (f b S1) G → Q b H1) : tT K c e σ H Q := by
  obtain ⟨x, S1, q, hk⟩ := h.bind
  refine ⟨hid, ρ, env, S, he, hs, ?_⟩
  rw [q]
  intro ρ1 H1 e1 s1
  obtain ⟨b, S2, q2, hk2⟩ := (hk ρ1 H1 e1).bind
  obtain ⟨hx, hS⟩ := asBl_ok q2
  subst hx hS
  exact ⟨b, rfl, k b _ ρ1 H1 e1 s1 (hk2 ρ1 H1 (Ext.refl _ _))⟩
/-- what a statement's run comes to: it may raise -/
def OutS {α : Type} (K : PySem.W.Frag) (hid ρ : List Addr) (H : Hp) (r : R α) (G : α → Sto → List Addr → Hp → Prop) (GX : Nat → Sto → List Addr → Hp → Prop) : Prop := match r with
  | .ok a S' => ∀ ρ' H', Ext ρ H ρ' H' → SOk K hid ρ' H' S' → G a S' ρ' H'
  | .exc k _ S' => ∀ ρ' H', Ext ρ H ρ' H' → SOk K hid ρ' H' S' → GX k S' ρ' H'
  | .bad => False
/-- an exception of class k is what W wishes for -/
def XW (c : Ctx) (W : L2.WX) : Nat → Sto → List Addr → Hp → Prop := fun k _ _ H => ∀ C, c.cls k = some C → ∀ σ, W (.ref C) none σ H
section
variable {K : PySem.W.Frag} {hid ρ ρ1 : List Addr} {H H1 : Hp} {α β : Type} {GX GX' : Nat → Sto → List Addr → Hp → Prop}
theorem OutS.ext {r : R α} {G : α → Sto → List Addr → Hp → Prop} (h : OutS K hid ρ H r G GX) (e : Ext ρ H ρ1 H1) : OutS K hid ρ1 H1 r G GX := by
  cases r with
  | ok a S => exact fun ρ' H' e' s' => h ρ' H' (e.trans e') s'
  | exc _ _ _ => exact fun ρ' H' e' s' => h ρ' H' (e.trans e') s'
  | bad => exact h.elim
theorem OutS.mono {r : R α} {G G' : α → Sto → List Addr → Hp → Prop} (h : OutS K hid ρ H r G GX) (g : ∀ a S' ρ' H', Ext ρ H ρ' H' → G a S' ρ' H' → G' a S' ρ' H') : OutS K hid ρ H r G' GX := by
  cases r with
  | ok a S => exact fun ρ' H' e' s' => g a _ ρ' H' e' (h ρ' H' e' s')
  | exc _ _ _ => exact h
  | bad => exact h.elim
/-- the first part, that may not raise, came to a value -/
theorem OutS.bind {r : R α} {f : α → Sto → R β} {G : β → Sto → List Addr → Hp → Prop} (h : OutS K hid ρ H (r.calm.bind f) G GX) : ∃ a S, r = .ok a S ∧ ∀ ρ' H', Ext ρ H ρ' H' → OutS K hid ρ' H' (f a S) G GX := by
  cases r with
  | ok a S => exact ⟨a, S, rfl, fun ρ' H' e => OutS.ext h e⟩
  | exc _ _ _ => exact h.elim
  | bad => exact h.elim
/-- the first part may raise -/
theorem OutS.seq {r : R α} {f : α → Sto → R β} {G : β → Sto → List Addr → Hp → Prop} {G' : α → Sto → List Addr → Hp → Prop} (h : OutS K hid ρ H (r.bind f) G GX)
    (g : ∀ a S1 ρ1 H1, Ext ρ H ρ1 H1 → SOk K hid ρ1 H1 S1 → OutS K hid ρ1 H1 (f a S1) G GX → G' a S1 ρ1 H1) : OutS K hid ρ H r G' GX := by
  cases r with
  | ok a S => exact fun ρ1 H1 e1 s1 => g a S ρ1 H1 e1 s1 (OutS.ext h e1)
  | exc _ _ _ => exact h
  | bad => exact h.elim
theorem OutS.pure {a : α} {S : Sto} {G : α → Sto → List Addr → Hp → Prop} (h : OutS K hid ρ H (.ok a S) G GX) (s : SOk K hid ρ H S) : G a S ρ H := h ρ H (Ext.refl ρ H) s
theorem OutS.some {o : Option α} {S : Sto} {f : α → Sto → R β} {G : β → Sto → List Addr → Hp → Prop} (h : OutS K hid ρ H ((R.of o S).bind f) G GX) : ∃ a, o = some a ∧ OutS K hid ρ H (f a S) G GX := by
  cases o with
  | some a => exact ⟨a, rfl, h⟩
  | none => exact h.elim
theorem Out.toS {r : R α} {G : α → Sto → List Addr → Hp → Prop} (h : Out K hid ρ H r G) : OutS K hid ρ H r G GX := by
  cases r with
  | ok a S => exact h
  | exc _ _ _ => exact h.elim
  | bad => exact h.elim
end
end QE

set_option Elab.async false
set_option linter.all false
set_option maxRecDepth 10000
set_option maxHeartbeats 1000000
/-! The operators, by values. -/
namespace QE
open PySem PySem.Spec PyProof.Rows L2
section
variable {K : PySem.W.Frag} {hid ρ : List Addr} {H : Hp} {S : Sto} {p : Addr}
theorem SOk.there (s : SOk K hid ρ H S) {a : Addr} (h : a ∈ ρ) : ∃ o, H a = some o := by
  obtain ⟨n, hn, e⟩ := List.getElem_of_mem h
  have hs : n < S.length := by rw [← s.len]; exact hn
  obtain ⟨b, q, r⟩ := s.ob n S[n] (List.getElem?_eq_getElem hs)
  rw [List.getElem?_eq_getElem hn, e] at q
  cases q
  generalize S[n] = ob at r
  cases ob with
  | lst xs => obtain ⟨vs, h1, _⟩ := r; exact ⟨_, h1⟩
  | dic t kvs => cases t <;> (obtain ⟨vs, h1, _⟩ := r; exact ⟨_, h1⟩)
  | tbl p q => obtain ⟨e, ps, h1, _⟩ := r; exact ⟨_, e ▸ h1⟩
theorem SOk.new1 (s : SOk K hid ρ H S) (h : H p = none) : p ∉ ρ := fun z => by
  obtain ⟨o, q⟩ := s.there z
  rw [h] at q; cases q
theorem SOk.new2 (s : SOk K hid ρ H S) (h : H p = none) : p ∉ hid := fun z => by
  obtain ⟨o, q, _⟩ := s.hidd p z
  rw [h] at q; cases q
theorem ObRep.mono {ρ' : List Addr} {H' : Hp} (e : Ext ρ H ρ' H') {a : Addr} (hk : H' a = H a) : ∀ (o : Ob), ObRep K hid ρ H a o → ObRep K hid ρ' H' a o
  | .lst xs, ⟨vs, h1, h2⟩ => ⟨vs, hk.trans h1, RepL.mono e xs vs h2⟩
  | .dic true xs, ⟨vs, h1, h2⟩ => ⟨vs, hk.trans h1, RepT.mono e xs vs h2⟩
  | .dic false xs, ⟨vs, h1, h2⟩ => ⟨vs, hk.trans h1, RepK.mono e xs vs h2⟩
  | .tbl p q, ⟨ea, ps, h1, h2, h3⟩ => ⟨ea, ps, (ea ▸ hk).trans h1, h2, fun pos cv hc => let ⟨c, e1, e2, e3⟩ := h3 pos cv hc; ⟨c, e1, e.notin e2 ⟨_, e3, LamX.codeO_ne⟩, e.keep0 _ _ e3 e2 LamX.codeO_ne⟩⟩
theorem SOk.new (s : SOk K hid ρ H S) (h : H p = none) {o : HO} : SOk K hid ρ (upd H p o) S := by
  have ne : ∀ a ∈ ρ, a ≠ p := fun a ha z => s.new1 h (z ▸ ha)
  refine ⟨s.len, s.nd, s.apart, fun a ha => let ⟨o, x, n⟩ := s.hidd a ha; (Ext.new (ρ := ρ) h).there0 _ _ x n, fun n ob q => ?_⟩
  obtain ⟨a, h1, h2⟩ := s.ob n ob q
  exact ⟨a, h1, h2.mono (Ext.new h) (upd_ne (ne a (List.mem_of_getElem? h1)))⟩
theorem rep_newL (s : SOk K hid ρ H S) (h : H p = none) {f : Bool} {xs : List Val} {vs : List V} (r : RepL K hid ρ H xs vs) : Rep K hid ρ (upd H p (.lst vs)) (.lst f xs) (.ref p) := by
  simp only [Rep]
  exact ⟨p, vs, rfl, RdF.of upd_same, s.new1 h, s.new2 h, RepL.mono (Ext.new h) xs vs r⟩
theorem rep_newT (h : H p = none) {xs : List Val} {vs : List V} (r : RepL K hid ρ H xs vs) : Rep K hid ρ (upd H p (.tup vs)) (.tup xs) (.ref p) := by
  simp only [Rep]
  exact ⟨p, vs, rfl, upd_same, RepL.mono (Ext.new h) xs vs r⟩

theorem Ext.newC {ρ : List Addr} {H : Hp} {p : Addr} {o : HO} (h : H p = none) : Ext ρ H (ρ ++ [p]) (upd H p o) := by
  have e : Ext ρ H ρ (upd H p o) := Ext.new h
  exact ⟨⟨[p], rfl, fun b hb => by rw [List.mem_singleton.mp hb]; exact .of h⟩, e.keep0, e.there0, e.tups, e.frzs⟩
/-- a new object becomes a cell -/
theorem SOk.newC (s : SOk K hid ρ H S) (h : H p = none) {o : HO} {ob : Ob} (r : ObRep K hid (ρ ++ [p]) (upd H p o) p ob) : SOk K hid (ρ ++ [p]) (upd H p o) (S ++ [ob]) := by
  have e : Ext ρ H (ρ ++ [p]) (upd H p o) := Ext.newC h
  refine ⟨by simp [s.len], ?_, ?_, fun a ha => ?_, fun n ob' q => ?_⟩
  · rw [List.nodup_append]
    exact ⟨s.nd, by simp, fun x hx y hy => by
      rw [List.mem_singleton] at hy
      subst hy
      exact fun z => s.new1 h (z ▸ hx)⟩
  · intro b hb
    rcases List.mem_append.mp hb with hb | hb
    · exact s.apart b hb
    · rw [List.mem_singleton.mp hb]; exact s.new2 h
  · obtain ⟨u, q, n⟩ := s.hidd a ha
    exact e.there0 a u q n
  · by_cases hn : n < S.length
    · rw [List.getElem?_append_left hn] at q
      obtain ⟨b, hb, rb⟩ := s.ob n ob' q
      refine ⟨b, by rw [List.getElem?_append_left (by rw [s.len]; exact hn)]; exact hb, rb.mono e (upd_ne fun z => ?_)⟩
      exact s.new1 h (z ▸ List.mem_of_getElem? hb)
    · have hn2 : n = S.length := by
        have := (List.getElem?_eq_some_iff.mp q).1
        simp at this
        omega
      subst hn2
      rw [List.getElem?_append_right (Nat.le_refl _)] at q
      simp at q
      subst q
      exact ⟨p, by rw [← s.len, List.getElem?_append_right (Nat.le_refl _)]; simp, r⟩
theorem fresh_newL {H0 : Hp} (s : SOk K hid ρ H S) (h : H p = none) (h0 : Gone H0 p) {f : Bool} {xs : List Val} {vs : List V} (r : RepL K hid ρ H xs vs) : Fresh K hid ρ (upd H p (.lst vs)) S H0 (.lst f xs) (.ref p) := by
  cases f with
  | false => trivial
  | true => exact ⟨p, rfl, h0, s.newC h ⟨vs, upd_same, RepL.mono (Ext.newC h) _ _ r⟩⟩
theorem asList_rep (s : SOk K hid ρ H S) {x : Val} {v : V} {xs : List Val} (e : asList S x = some xs) (r : Rep K hid ρ H x v) : ∃ a vs, v = .ref a ∧ Rd H a (.lst vs) ∧ RepL K hid ρ H xs vs := by
  cases x with
  | lst f ys =>
    simp only [asList, Option.some.injEq] at e
    subst e
    simp only [Rep] at r
    obtain ⟨a, vs, h1, h2, _, _, h5⟩ := r
    exact ⟨a, vs, h1, h2.rd, h5⟩
  | ref n =>
    simp only [asList] at e
    split at e
    · rename_i ys q
      cases e
      simp only [Rep] at r
      obtain ⟨a, h1, h2⟩ := r
      obtain ⟨b, h3, vs, h4, h5⟩ := s.ob n _ q
      rw [h1] at h3; cases h3
      exact ⟨a, vs, h2, .inl h4, h5⟩
    · cases e
  | _ => simp [asList] at e
theorem asSeq_rep (s : SOk K hid ρ H S) {x : Val} {v : V} {xs : List Val} (e : asSeq S x = some xs) (r : Rep K hid ρ H x v) : ∃ a vs, v = .ref a ∧ (SqL K H a vs ∨ SqT K H a vs) ∧ RepL K hid ρ H xs vs := by
  cases x with
  | tup ys =>
    simp only [asSeq, Option.some.injEq] at e
    subst e
    simp only [Rep] at r
    obtain ⟨a, vs, h1, h2, h3⟩ := r
    exact ⟨a, vs, h1, .inr (SqT.of h2), h3⟩
  | ptup ys =>
    simp only [asSeq, Option.some.injEq] at e
    subst e
    simp only [Rep] at r
    obtain ⟨a, vs, h1, h2, h3⟩ := r
    exact ⟨a, vs, h1, .inr (.inl h2.rd), h3⟩
  | _ =>
    obtain ⟨a, vs, h1, h2, h3⟩ := asList_rep s (by simpa only [asSeq] using e) r
    exact ⟨a, vs, h1, .inl (.inl h2), h3⟩
end

/-- two values in, one out -/
def rOf (K : PySem.W.Frag) (f : Sto → Val → Val → Option Val) : R2 := fun v w H Q => ∃ hid ρ S x y, SOk K hid ρ H S ∧ Rep K hid ρ H x v ∧ Rep K hid ρ H y w ∧
  Out K hid ρ H (R.of (f S x y) S) fun z S' ρ' H' => ∀ u, Rep K hid ρ' H' z u → Fresh K hid ρ' H' S' H z u → Q u H'
/-- two values in, a bool out -/
def rCo (K : PySem.W.Frag) (f : Sto → Val → Val → Option Bool) : R2 := fun v w H Q => ∃ hid ρ S x y b, SOk K hid ρ H S ∧ Rep K hid ρ H x v ∧ Rep K hid ρ H y w ∧ f S x y = some b ∧ Q (.bl b) H
section
variable {K : PySem.W.Frag} {hid ρ : List Addr} {H : Hp} {S : Sto} {p : Addr} {Q : VK} {z : Val} {u : V}
abbrev Gv (K : PySem.W.Frag) (hid : List Addr) (H : Hp) (Q : VK) : Val → Sto → List Addr → Hp → Prop := fun z S' ρ' H' => ∀ u, Rep K hid ρ' H' z u → Fresh K hid ρ' H' S' H z u → Q u H'
theorem fin_same (s : SOk K hid ρ H S) (h : Out K hid ρ H (.ok z S) (Gv K hid H Q)) (r : Rep K hid ρ H z u) (f : Fresh K hid ρ H S H z u := by trivial) : Q u H := h ρ H (Ext.refl ρ H) s u r f
theorem fin_new {o : HO} (s : SOk K hid ρ H S) (h : Out K hid ρ H (.ok z S) (Gv K hid H Q)) (hp : H p = none) (r : Rep K hid ρ (upd H p o) z (.ref p)) (f : Fresh K hid ρ (upd H p o) S H z (.ref p)) : Q (.ref p) (upd H p o) :=
  h ρ _ (Ext.new hp) (s.new hp) _ r f
theorem Rep.int_ {i : Int} {v : V} (h : Rep K hid ρ H (.int i) v) : v = .int i := by simpa only [Rep] using h
theorem Rep.str_ {i : List Nat} {v : V} (h : Rep K hid ρ H (.str i) v) : v = .str (strOf i) := by simpa only [Rep] using h
theorem Rep.bl_ {i : Bool} {v : V} (h : Rep K hid ρ H (.bl i) v) : v = .bl i := by simpa only [Rep] using h
theorem Rep.non_ {v : V} (h : Rep K hid ρ H .non v) : v = .non := by simpa only [Rep] using h
theorem Rep.tup_ {xs : List Val} {v : V} (h : Rep K hid ρ H (.tup xs) v) : ∃ a vs, v = .ref a ∧ H a = some (.tup vs) ∧ RepL K hid ρ H xs vs := by simpa only [Rep] using h
theorem Rep.of_int {i : Int} : Rep K hid ρ H (.int i) (.int i) := by simp only [Rep]
theorem Rep.of_bl {i : Bool} : Rep K hid ρ H (.bl i) (.bl i) := by simp only [Rep]
theorem Rep.of_str {i : List Nat} : Rep K hid ρ H (.str i) (.str (strOf i)) := by simp only [Rep]
theorem Rep.of_non : Rep K hid ρ H .non .non := by simp only [Rep]
theorem Rep.of_tup {xs : List Val} {a : Addr} {vs : List V} (h : H a = some (.tup vs)) (r : RepL K hid ρ H xs vs) : Rep K hid ρ H (.tup xs) (.ref a) := by simp only [Rep]; exact ⟨a, vs, rfl, h, r⟩
end
theorem lim_eq : lim = sizeLine := sizeLine_eq.symm

theorem strOf_app (a b : List Nat) : strOf a ++ strOf b = strOf (a ++ b) := SX.S_cat a b
section
variable {X : Cx}
theorem op_catR : OpR X (binaryOp .Add) (fun x y H Q => ∃ l b xs zs, x = .ref l ∧ y = .ref b ∧ Rd H l (.lst xs) ∧ Rd H b (.lst zs) ∧ xs.length + zs.length ≤ sizeLine ∧ ∀ p, H p = none → Q (.ref p) (upd H p (.lst (xs ++ zs)))) := by
  intro pins s σ H x y v u Q I rx ry h
  obtain ⟨l, b, xs, zs, ex, ey, h1, h2, hz, q⟩ := h
  subst ex ey
  cases rx
  cases ry
  obtain ⟨z1, its, n, r, e⟩ := h1.ok I.hok
  obtain ⟨z2, its2, n2, r2, e2⟩ := h2.ok I.hok
  have l1 := r.length
  have l2 := r2.length
  refine PySem.P.add_list e e2 ?_ (by rw [List.size_toArray, List.size_toArray]; omega)
  rw [show its.toArray ++ its2.toArray = (its ++ its2).toArray by simp]
  exact ⟨.ref _, _, Inv.lnew (t' := s.toks) I (r.append r2) (by rw [List.length_append]; omega), rfl, q _ I.fresh⟩
theorem op_addQ : OpR X (binaryOp .Add) (rOf X.K addV) := by
  intro pins s σ H v w vv ww Q I rv rw' h
  obtain ⟨hid, ρ, S, x, y, so, rx, ry, h⟩ := h
  obtain ⟨z, e, h⟩ := h.of
  unfold addV at e
  split at e
  · cases e
    cases rx.int_; cases ry.int_
    exact op_add pins s σ H _ _ _ _ Q I rv rw' ⟨_, _, rfl, rfl, fin_same so h .of_int⟩
  · rename_i a b
    split at e <;> cases e
    rename_i hz
    cases rx.str_; cases ry.str_
    refine op_add_str pins s σ H _ _ _ _ Q I rv rw' ⟨_, _, rfl, rfl, ?_, ?_⟩
    · rw [strOf_len, strOf_len, ← lim_eq]; exact hz
    · rw [strOf_app]; exact fin_same so h .of_str
  · rename_i xs ys
    split at e <;> cases e
    rename_i hz
    obtain ⟨a, vs, e1, h1, r1⟩ := rx.tup_
    obtain ⟨b, ws, e2, h2, r2⟩ := ry.tup_
    subst e1 e2
    have l1 := r1.length
    have l2 := r2.length
    refine op_catA pins s σ H _ _ _ _ Q I rv rw' ⟨a, b, vs, ws, rfl, rfl, SqT.of h1, SqT.of h2, by rw [l1, l2, ← lim_eq]; exact hz, fun e => ?_, fun _ e => ?_, fun _ _ p hp => ?_⟩
    · subst e
      have ex : xs = [] := List.eq_nil_of_length_eq_zero l1.symm
      subst ex
      exact fin_same so h (.of_tup h2 r2)
    · subst e
      have ex : ys = [] := List.eq_nil_of_length_eq_zero l2.symm
      subst ex
      rw [List.append_nil] at h
      exact fin_same so h (.of_tup h1 r1)
    · exact fin_new so h hp (rep_newT hp (r1.app r2)) trivial
  · rename_i xs ys
    split at e <;> cases e
    rename_i hz
    simp only [Bool.and_eq_true, decide_eq_true_eq, Bool.not_eq_true'] at hz
    have rx0 := rx
    simp only [Rep] at rx0
    obtain ⟨a, vs, e1, h1, r1⟩ := rx0
    obtain ⟨b, ws, e2, h2, r2⟩ := ry.tup_
    subst e1 e2
    have l1 := r1.length
    have l2 := r2.length
    have n1 : vs ≠ [] := fun z => by
      subst z
      have : xs = [] := List.eq_nil_of_length_eq_zero l1.symm
      rw [this] at hz
      exact absurd hz.1.1 (by decide)
    have n2 : ws ≠ [] := fun z => by
      subst z
      have : ys = [] := List.eq_nil_of_length_eq_zero l2.symm
      rw [this] at hz
      exact absurd hz.1.2 (by decide)
    exact op_catA pins s σ H _ _ _ _ Q I rv rw' ⟨a, b, vs, ws, rfl, rfl, .inl h1.rd, SqT.of h2, by rw [l1, l2, ← lim_eq]; exact hz.2, fun e => absurd e n1, fun _ e => absurd e n2, fun _ _ p hp => fin_new so h hp (rep_newT hp (r1.app r2)) trivial⟩
  · split at e <;> try (cases e; done)
    rename_i xs ys h1 h2
    split at e <;> cases e
    rename_i hz
    obtain ⟨a, vs, e1, d1, r1⟩ := asList_rep so h1 rx
    obtain ⟨b, ws, e2, d2, r2⟩ := asList_rep so h2 ry
    subst e1 e2
    exact op_catR pins s σ H _ _ _ _ Q I rv rw' ⟨a, b, vs, ws, rfl, rfl, d1, d2, by rw [r1.length, r2.length, ← lim_eq]; exact hz, fun p hp => fin_new so h hp (rep_newL so hp (r1.app r2)) (fresh_newL so hp (.of hp) (r1.app r2))⟩
theorem op_subQ : OpR X (binaryOp .Sub) (rOf X.K subV) := by
  intro pins s σ H v w vv ww Q I rv rw' h
  obtain ⟨hid, ρ, S, x, y, so, rx, ry, h⟩ := h
  obtain ⟨z, e, h⟩ := h.of
  unfold subV at e
  split at e <;> cases e
  cases rx.int_; cases ry.int_
  exact op_sub pins s σ H _ _ _ _ Q I rv rw' ⟨_, _, rfl, rfl, fin_same so h .of_int⟩
theorem op_fdivQ : OpR X (binaryOp .FloorDiv) (rOf X.K fdivV) := by
  intro pins s σ H v w vv ww Q I rv rw' h
  obtain ⟨hid, ρ, S, x, y, so, rx, ry, h⟩ := h
  obtain ⟨z, e, h⟩ := h.of
  unfold fdivV at e
  split at e <;> try (cases e; done)
  split at e <;> cases e
  cases rx.int_; cases ry.int_
  exact op_fdivN pins s σ H _ _ _ _ Q I rv rw' ⟨_, _, rfl, rfl, by assumption, fin_same so h .of_int⟩
theorem op_modQ : OpR X (binaryOp .Mod) (rOf X.K modV) := by
  intro pins s σ H v w vv ww Q I rv rw' h
  obtain ⟨hid, ρ, S, x, y, so, rx, ry, h⟩ := h
  obtain ⟨z, e, h⟩ := h.of
  unfold modV at e
  split at e <;> try (cases e; done)
  split at e <;> cases e
  cases rx.int_; cases ry.int_
  exact op_modN pins s σ H _ _ _ _ Q I rv rw' ⟨_, _, rfl, rfl, by assumption, fin_same so h .of_int⟩
theorem op_powQ : OpR X (binaryOp .Pow) (rOf X.K powV) := by
  intro pins s σ H v w vv ww Q I rv rw' h
  obtain ⟨hid, ρ, S, x, y, so, rx, ry, h⟩ := h
  obtain ⟨z, e, h⟩ := h.of
  unfold powV at e
  split at e <;> try (cases e; done)
  split at e <;> cases e
  cases rx.int_; cases ry.int_
  exact op_pow pins s σ H _ _ _ _ Q I rv rw' ⟨_, _, rfl, rfl, by assumption, fin_same so h .of_int⟩

theorem rep_flat {α : Type} : ∀ (n : Nat) (xs : List α), rep n xs = (List.replicate n xs).flatten
  | 0, xs => rfl
  | n + 1, xs => by rw [rep, rep_flat n xs, List.replicate_succ, List.flatten_cons]
theorem RepL.rep {K : PySem.W.Frag} {hid ρ : List Addr} {H : Hp} {xs : List Val} {vs : List V} (r : RepL K hid ρ H xs vs) : ∀ n : Nat, RepL K hid ρ H (QE.rep n xs) (List.replicate n vs).flatten
  | 0 => .nil
  | n + 1 => by
    rw [List.replicate_succ, List.flatten_cons]
    exact r.app (r.rep n)
theorem cmul_of {a b : Int} (h : (small a || small b) = true) : CMul a b := by
  simp only [small, Bool.or_eq_true, Bool.and_eq_true, decide_eq_true_eq] at h
  exact h
/-- a tuple times one is the tuple itself -/
theorem tuple_one (l : Addr) (items : Array Value) (n : Nat) (dd : Option Addr) (sl : Array (Option Value)) (u : Tok) :
    Meets (Builtin.«tuple.__mul__» ⟨[.ref l, .int 1 u], []⟩) (fun _ R s => s.heap.get? l = some { cls := .type "tuple", dict := dd, data := .seq items n, slots := sl } ∧ R (.ok (.ret (Value.ref l))) s) :=
  .of_wp fun prog w A R s h => by
    obtain ⟨hp, g, d, tk, os⟩ := s
    obtain ⟨ho, h⟩ := h
    have f1 := AutoSeq1.idx_int
    wp_walk using AutoSeq1.wpAny_loadPart' ho
    exact ⟨_, rfl, h⟩
def rRep1 (K : PySem.W.Frag) : R2 := fun v w H Q => ∃ a vs, v = .ref a ∧ w = .int 1 ∧ SqT K H a vs ∧ Q (.ref a) H
theorem op_rep1 : OpR X (binaryOp .Mult) (rRep1 X.K) := by
  intro pins s σ H v w vv ww Q I rv rw' h
  obtain ⟨a, vs, rfl, rfl, hT, q⟩ := h
  cases rv
  obtain ⟨t, rfl⟩ := rw'
  obtain ⟨its, _, ⟨⟨c, dd, dt, sl⟩, ho, hc, n, hd⟩, _⟩ := I.tuple hT
  simp only at hc hd
  subst hc hd
  exact wpAny_binaryOp_repeat_ref (T := "tuple") (U := "int") (by decide) ⟨_, ho, rfl⟩ (fun s' => typeIs_int s' 1 t) noFill_tuple_mul F.fills_int_mul F.slot_int_rmul repeat_tuple F.slot_int_index.lookup
    (call_meets F.slot_int_rmul (typeIs_int s 1 t) F.entry_int_rmul (F.args_int_rmul_2 _ _) (int_rmul_tuple 1 t a its.toArray n dd sl)
      ⟨ho, rfl, ⟨_, ho, rfl⟩, call_meets F.slot_tuple_mul ⟨_, ho, rfl⟩ F.entry_tuple_mul (F.args_tuple_mul_2 _ _) (tuple_one a its.toArray n dd sl t) ⟨ho, ⟨.ref a, H, I, rfl, q⟩⟩⟩)
theorem op_mulQ : OpR X (binaryOp .Mult) (rOf X.K mulV) := by
  intro pins s σ H v w vv ww Q I rv rw' h
  obtain ⟨hid, ρ, S, x, y, so, rx, ry, h⟩ := h
  obtain ⟨z, e, h⟩ := h.of
  unfold mulV at e
  split at e
  · split at e <;> cases e
    cases rx.int_; cases ry.int_
    exact op_mul pins s σ H _ _ _ _ Q I rv rw' ⟨_, _, rfl, rfl, cmul_of (by assumption), fin_same so h .of_int⟩
  · rename_i xs k
    split at e <;> try (cases e; done)
    rename_i hne
    obtain ⟨a, vs, e1, h1, r1⟩ := rx.tup_
    have l1 := r1.length
    have hv : vs ≠ [] := fun z => by
      subst z
      have : xs = [] := List.eq_nil_of_length_eq_zero l1.symm
      subst this
      exact hne rfl
    subst e1
    cases ry.int_
    split at e
    · cases e
      rename_i hc
      by_cases hk1 : k = 1
      · subst hk1
        have : QE.rep (1 : Int).toNat xs = xs := by
          show QE.rep 1 xs = xs
          simp [QE.rep]
        rw [this] at h
        exact op_rep1 pins s σ H _ _ _ _ Q I rv rw' ⟨a, vs, rfl, rfl, SqT.of h1, fin_same so h rx trivial⟩
      exact op_repT pins s σ H _ _ _ _ Q I rv rw' ⟨a, k, vs, rfl, rfl, SqT.of h1, hv, (by omega : 2 ≤ k), hc.2.1, by rw [l1]; exact hc.2.2, fun p hp => fin_new so h hp (rep_newT hp (RepL.rep r1 _)) trivial⟩
    · cases e
  · rename_i xs k
    split at e <;> try (cases e; done)
    rename_i hc
    cases e
    have rx0 := rx
    simp only [Rep] at rx
    obtain ⟨a, vs, e1, h1, na, nh, r1⟩ := rx
    have l1 := r1.length
    subst e1
    cases ry.int_
    have h1 : H a = some (.lst vs) := h1
    have hz : vs.length * k.toNat ≤ sizeLine := by
      have h2 : k.toNat ≤ 1000 := by omega
      have h3 : vs.length ≤ 1000 := by rw [l1]; exact hc.2.2
      have := Nat.mul_le_mul h3 h2
      rw [sizeLine_eq]
      omega
    exact op_rep pins s σ H _ _ _ _ Q I rv rw' ⟨a, k, vs, rfl, rfl, h1, by omega, by omega, hz, fun p hp => fin_new so h hp (rep_newL so hp (RepL.rep r1 _)) (fresh_newL so hp (.of hp) (RepL.rep r1 _))⟩
  · cases e

end
/-! ### comparisons -/
mutual
def pd : Val → PyData
  | .non => .none
  | .bl b => .bool b
  | .int i => .int i
  | .str s => .str (strOf s)
  | .tup xs => .tuple (pdL xs)
  | .lst _ xs => .list (pdL xs)
  | .ptup xs => .tuple (pdL xs)
  | _ => .none
def pdL : List Val → List PyData
  | [] => []
  | x :: xs => pd x :: pdL xs
end
theorem strOk_of {s : List Nat} (h : s.all (· < 1114112) = true) : PyData.strOk (strOf s) = true := by
  unfold PyData.strOk strOf
  simpa using h
mutual
theorem pd_lay : ∀ (d : Nat) (x : Val), x.chk d = true → (pd x).canLay0 = true ∧ (pd x).depth ≤ d
  | _, .non, _ => by simp [pd, PyData.canLay0, PyData.depth]
  | _, .bl b, _ => by simp [pd, PyData.canLay0, PyData.depth]
  | _, .int b, _ => by simp [pd, PyData.canLay0, PyData.depth]
  | _, .str b, h => by
    simp only [pd, PyData.canLay0, PyData.depth]
    exact ⟨strOk_of (by simpa [Val.chk] using h), Nat.zero_le _⟩
  | 0, .tup xs, h => by simp [Val.chk] at h
  | 0, .lst _ xs, h => by simp [Val.chk] at h
  | 0, .ptup xs, h => by simp [Val.chk] at h
  | d + 1, .ptup xs, h => by
    have q := pd_layL d xs (by simpa only [Val.chk] using h)
    simp only [pd, PyData.canLay0, PyData.depth]
    exact ⟨q.1, by omega⟩
  | d + 1, .tup xs, h => by
    have q := pd_layL d xs (by simpa only [Val.chk] using h)
    simp only [pd, PyData.canLay0, PyData.depth]
    exact ⟨q.1, by omega⟩
  | d + 1, .lst _ xs, h => by
    have q := pd_layL d xs (by simpa only [Val.chk] using h)
    simp only [pd, PyData.canLay0, PyData.depth]
    exact ⟨q.1, by omega⟩
  | _, .dic _ _ _, h => by simp [Val.chk] at h
  | _, .ref _, h => by simp [Val.chk] at h
  | _, .kls _, h => by simp [Val.chk] at h
theorem pd_layL : ∀ (d : Nat) (xs : List Val), Val.chkL d xs = true → PyData.canLayAll0 (pdL xs) = true ∧ PyData.depthAll (pdL xs) ≤ d
  | _, [], _ => by simp [pdL, PyData.canLayAll0, PyData.depthAll]
  | d, x :: xs, h => by
    simp only [Val.chkL, Bool.and_eq_true] at h
    have q1 := pd_lay d x h.1
    have q2 := pd_layL d xs h.2
    simp only [pdL, PyData.canLayAll0, PyData.depthAll, Bool.and_eq_true]
    exact ⟨⟨q1.1, q2.1⟩, by omega⟩
end
theorem pd_shaped {x : Val} (h : x.chk 64 = true) : SeqAt.shaped (pd x) = true := by
  have q := pd_lay 64 x h
  unfold SeqAt.shaped
  rw [q.1, decide_eq_true q.2]
  rfl
theorem pdL_shaped {xs : List Val} (h : Val.chkL 63 xs = true) : SeqAt.shaped (.list (pdL xs)) = true ∧ SeqAt.shaped (.tuple (pdL xs)) = true := by
  have q := pd_layL 63 xs h
  have d1 : PyData.depth (.list (pdL xs)) ≤ 64 := by simp only [PyData.depth]; omega
  have d2 : PyData.depth (.tuple (pdL xs)) ≤ 64 := by simp only [PyData.depth]; omega
  have c1 : PyData.canLay0 (.list (pdL xs)) = true := by simp only [PyData.canLay0]; exact q.1
  have c2 : PyData.canLay0 (.tuple (pdL xs)) = true := by simp only [PyData.canLay0]; exact q.1
  exact ⟨Bool.and_eq_true_iff.mpr ⟨c1, decide_eq_true d1⟩, Bool.and_eq_true_iff.mpr ⟨c2, decide_eq_true d2⟩⟩
mutual
theorem pd_eqv : ∀ (x y : Val) (d e : Nat), x.chk d = true → y.chk e = true → x.eqv y = PyData.eqv (pd x) (pd y)
  | .non, y, _, _, _, h => by cases y <;> simp_all [pd, Val.eqv, PyData.eqv, Val.chk]
  | .bl b, y, _, _, _, h => by cases y <;> simp_all [pd, Val.eqv, PyData.eqv, Val.chk]
  | .int b, y, _, _, _, h => by cases y <;> simp_all [pd, Val.eqv, PyData.eqv, Val.chk]
  | .str b, y, _, _, _, h => by
    cases y <;> simp_all [pd, Val.eqv, PyData.eqv, Val.chk]
    rename_i b' _
    by_cases z : b = b'
    · subst z; simp
    · have : strOf b ≠ strOf b' := fun q => z (strOf_inj q)
      rw [beq_eq_false_iff_ne.mpr z, beq_eq_false_iff_ne.mpr this]
  | .tup xs, y, 0, _, h, _ => by simp [Val.chk] at h
  | .lst _ xs, y, 0, _, h, _ => by simp [Val.chk] at h
  | .ptup xs, y, 0, _, h, _ => by simp [Val.chk] at h
  | .tup xs, .ptup ys, d + 1, 0, _, h => by simp [Val.chk] at h
  | .ptup xs, .tup ys, d + 1, 0, _, h => by simp [Val.chk] at h
  | .ptup xs, .ptup ys, d + 1, 0, _, h => by simp [Val.chk] at h
  | .tup xs, .ptup ys, d + 1, e + 1, h1, h2 => by
    simp only [pd, Val.eqv, PyData.eqv]
    exact pd_eqvL xs ys d e (by simpa only [Val.chk] using h1) (by simpa only [Val.chk] using h2)
  | .ptup xs, .tup ys, d + 1, e + 1, h1, h2 => by
    simp only [pd, Val.eqv, PyData.eqv]
    exact pd_eqvL xs ys d e (by simpa only [Val.chk] using h1) (by simpa only [Val.chk] using h2)
  | .ptup xs, .ptup ys, d + 1, e + 1, h1, h2 => by
    simp only [pd, Val.eqv, PyData.eqv]
    exact pd_eqvL xs ys d e (by simpa only [Val.chk] using h1) (by simpa only [Val.chk] using h2)
  | .ptup xs, .non, d + 1, _, _, _ | .ptup xs, .bl _, d + 1, _, _, _ | .ptup xs, .int _, d + 1, _, _, _ | .ptup xs, .str _, d + 1, _, _, _ | .ptup xs, .lst _ _, d + 1, _, _, _ => by simp [pd, Val.eqv, PyData.eqv]
  | .lst _ xs, .ptup _, d + 1, _, _, _ => by simp [pd, Val.eqv, PyData.eqv]
  | .ptup xs, .dic _ _ _, d + 1, _, _, h | .ptup xs, .ref _, d + 1, _, _, h | .ptup xs, .kls _, d + 1, _, _, h => by simp [Val.chk] at h
  | .tup xs, .tup ys, d + 1, 0, _, h => by simp [Val.chk] at h
  | .lst _ xs, .lst _ ys, d + 1, 0, _, h => by simp [Val.chk] at h
  | .tup xs, .tup ys, d + 1, e + 1, h1, h2 => by
    simp only [pd, Val.eqv, PyData.eqv]
    exact pd_eqvL xs ys d e (by simpa only [Val.chk] using h1) (by simpa only [Val.chk] using h2)
  | .lst _ xs, .lst _ ys, d + 1, e + 1, h1, h2 => by
    simp only [pd, Val.eqv, PyData.eqv]
    exact pd_eqvL xs ys d e (by simpa only [Val.chk] using h1) (by simpa only [Val.chk] using h2)
  | .tup xs, .non, d + 1, _, _, _ | .tup xs, .bl _, d + 1, _, _, _ | .tup xs, .int _, d + 1, _, _, _ | .tup xs, .str _, d + 1, _, _, _ | .tup xs, .lst _ _, d + 1, _, _, _ => by simp [pd, Val.eqv, PyData.eqv]
  | .lst _ xs, .non, d + 1, _, _, _ | .lst _ xs, .bl _, d + 1, _, _, _ | .lst _ xs, .int _, d + 1, _, _, _ | .lst _ xs, .str _, d + 1, _, _, _ | .lst _ xs, .tup _, d + 1, _, _, _ => by simp [pd, Val.eqv, PyData.eqv]
  | .tup xs, .dic _ _ _, d + 1, _, _, h | .tup xs, .ref _, d + 1, _, _, h | .tup xs, .kls _, d + 1, _, _, h => by simp [Val.chk] at h
  | .lst _ xs, .dic _ _ _, d + 1, _, _, h | .lst _ xs, .ref _, d + 1, _, _, h | .lst _ xs, .kls _, d + 1, _, _, h => by simp [Val.chk] at h
  | .dic _ _ _, _, _, _, h, _ => by simp [Val.chk] at h
  | .ref _, _, _, _, h, _ => by simp [Val.chk] at h
  | .kls _, _, _, _, h, _ => by simp [Val.chk] at h
theorem pd_eqvL : ∀ (xs ys : List Val) (d e : Nat), Val.chkL d xs = true → Val.chkL e ys = true → Val.eqvL xs ys = PyData.eqvAll (pdL xs) (pdL ys)
  | [], [], _, _, _, _ => by simp [pdL, Val.eqvL, PyData.eqvAll]
  | [], _ :: _, _, _, _, _ => by simp [pdL, Val.eqvL, PyData.eqvAll]
  | _ :: _, [], _, _, _, _ => by simp [pdL, Val.eqvL, PyData.eqvAll]
  | x :: xs, y :: ys, d, e, h1, h2 => by
    simp only [Val.chkL, Bool.and_eq_true] at h1 h2
    simp only [pdL, Val.eqvL, PyData.eqvAll]
    rw [pd_eqv x y d e h1.1 h2.1, pd_eqvL xs ys d e h1.2 h2.2]
end
section
variable {K : PySem.W.Frag} {hid ρ : List Addr} {H : Hp}
theorem sqL_of {a : Addr} {vs : List V} (h : Rd H a (.lst vs)) : SqL K H a vs := .inl h
mutual
theorem dp_of : ∀ (d : Nat) (x : Val) (v : V), x.chk d = true → Rep K hid ρ H x v → Dp K H v (pd x)
  | _, .non, v, _, r => by cases r.non_; simp only [pd]; exact .non
  | _, .bl b, v, _, r => by cases r.bl_; simp only [pd]; exact .bl b
  | _, .int b, v, _, r => by cases r.int_; simp only [pd]; exact .int b
  | _, .str b, v, _, r => by cases r.str_; simp only [pd]; exact .str _
  | 0, .tup xs, _, h, _ => by simp [Val.chk] at h
  | 0, .lst _ xs, _, h, _ => by simp [Val.chk] at h
  | 0, .ptup xs, _, h, _ => by simp [Val.chk] at h
  | d + 1, .ptup xs, v, h, r => by
    simp only [Rep] at r
    obtain ⟨a, vs, e, h1, r1⟩ := r
    subst e
    simp only [pd]
    exact .tup (.inl h1.rd) (dp_ofL d xs vs (by simpa only [Val.chk] using h) r1)
  | d + 1, .tup xs, v, h, r => by
    obtain ⟨a, vs, e, h1, r1⟩ := r.tup_
    subst e
    simp only [pd]
    exact .tup (SqT.of h1) (dp_ofL d xs vs (by simpa only [Val.chk] using h) r1)
  | d + 1, .lst f xs, v, h, r => by
    simp only [Rep] at r
    obtain ⟨a, vs, e, h1, _, _, r1⟩ := r
    subst e
    simp only [pd]
    exact .lst (.inl h1.rd) (dp_ofL d xs vs (by simpa only [Val.chk] using h) r1)
  | _, .dic _ _ _, _, h, _ => by simp [Val.chk] at h
  | _, .ref _, _, h, _ => by simp [Val.chk] at h
  | _, .kls _, _, h, _ => by simp [Val.chk] at h
theorem dp_ofL : ∀ (d : Nat) (xs : List Val) (vs : List V), Val.chkL d xs = true → RepL K hid ρ H xs vs → DpAll K H vs (pdL xs)
  | _, [], vs, _, r => by simp only [RepL] at r; subst r; simp only [pdL]; exact .nil
  | d, x :: xs, vs, h, r => by
    simp only [RepL] at r
    obtain ⟨v, w, e, r1, r2⟩ := r
    subst e
    simp only [Val.chkL, Bool.and_eq_true] at h
    simp only [pdL]
    exact .cons (dp_of d x v h.1 r1.2) (dp_ofL d xs w h.2 r2)
end
/-- a value with its cell resolved -/
theorem dp_res {S : Sto} (so : SOk K hid ρ H S) {x : Val} {v : V} (r : Rep K hid ρ H x v) (h : (res S x).chk 64 = true) : Dp K H v (pd (res S x)) := by
  cases x with
  | ref n =>
    simp only [res] at h ⊢
    split at h
    · rename_i xs q
      simp only [Rep] at r
      obtain ⟨a, h1, h2⟩ := r
      obtain ⟨b, h3, vs, h4, h5⟩ := so.ob n _ q
      rw [h1] at h3; cases h3
      subst h2
      simp only [q, pd]
      exact .lst (.inl (.inl h4)) (dp_ofL 63 xs vs (by simpa only [Val.chk] using h) h5)
    · simp [Val.chk] at h
  | _ => exact dp_of 64 _ v h r
/-- one cell's list, at any depth -/
theorem dp_res1 {S : Sto} (so : SOk K hid ρ H S) : ∀ (d : Nat) (x : Val) (v : V), (res S x).chk d = true → Rep K hid ρ H x v → Dp K H v (pd (res S x)) := by
  intro d x v h r
  cases x with
  | ref n =>
    simp only [res] at h ⊢
    split at h
    · rename_i xs q
      simp only [Rep] at r
      obtain ⟨a, h1, h2⟩ := r
      obtain ⟨b, h3, vs, h4, h5⟩ := so.ob n _ q
      rw [h1] at h3; cases h3
      subst h2
      simp only [q, pd]
      cases d with
      | zero => simp [Val.chk] at h
      | succ d => exact .lst (.inl (.inl h4)) (dp_ofL d xs vs (by simpa only [Val.chk] using h) h5)
    · simp [Val.chk] at h
  | _ => exact dp_of d _ v h r
theorem dp_resL {S : Sto} (so : SOk K hid ρ H S) : ∀ (d : Nat) (xs : List Val) (vs : List V), Val.chkL d (xs.map (res S)) = true → RepL K hid ρ H xs vs → DpAll K H vs (pdL (xs.map (res S)))
  | _, [], vs, _, r => by simp only [RepL] at r; subst r; simp only [List.map_nil, pdL]; exact .nil
  | d, x :: xs, vs, h, r => by
    simp only [RepL] at r
    obtain ⟨v, w, e, r1, r2⟩ := r
    subst e
    simp only [List.map_cons, Val.chkL, Bool.and_eq_true] at h
    simp only [List.map_cons, pdL]
    exact .cons (dp_res1 so d x v h.1 r1.2) (dp_resL so d xs w h.2 r2)
theorem dp_resD {S : Sto} (so : SOk K hid ρ H S) {x : Val} {v : V} (r : Rep K hid ρ H x v) (h : (resD S x).chk 64 = true) : Dp K H v (pd (resD S x)) := by
  cases x with
  | lst f xs =>
    simp only [Rep] at r
    obtain ⟨a, vs, e, h1, _, _, r1⟩ := r
    subst e
    simp only [resD, pd]
    exact .lst (.inl h1.rd) (dp_resL so 63 xs vs (by simpa only [resD, Val.chk] using h) r1)
  | non => exact dp_res1 so 64 .non v h r
  | bl b => exact dp_res1 so 64 (.bl b) v h r
  | int b => exact dp_res1 so 64 (.int b) v h r
  | str b => exact dp_res1 so 64 (.str b) v h r
  | tup b => exact dp_res1 so 64 (.tup b) v h r
  | dic f t b => exact dp_res1 so 64 (.dic f t b) v h r
  | ref n => exact dp_res1 so 64 (.ref n) v h r
  | kls b => exact dp_res1 so 64 (.kls b) v h r
  | fn b d => exact dp_res1 so 64 (.fn b d) v h r
  | exn b d => exact dp_res1 so 64 (.exn b d) v h r
  | ptup b => exact dp_res1 so 64 (.ptup b) v h r
end
section
variable {X : Cx}
theorem op_eqQ (hu : X.A.units + 64 < cLine) : OpR X (compareOp .Eq) (rCo X.K eqVal) := by
  intro pins s σ H v w vv ww Q I rv rw' h
  obtain ⟨hid, ρ, S, x, y, b, so, rx, ry, e, q⟩ := h
  unfold eqVal at e
  split at e
  · cases e
    rename_i hc
    simp only [Bool.and_eq_true] at hc
    refine op_eqD hu pins s σ H _ _ _ _ Q I rv rw' ⟨_, _, dp_res so rx hc.1, dp_res so ry hc.2, pd_shaped hc.1, pd_shaped hc.2, ?_⟩
    rw [← pd_eqv _ _ 64 64 hc.1 hc.2]
    exact q
  · split at e <;> cases e
    rename_i hc
    simp only [Bool.and_eq_true] at hc
    refine op_eqD hu pins s σ H _ _ _ _ Q I rv rw' ⟨_, _, dp_resD so rx hc.1, dp_resD so ry hc.2, pd_shaped hc.1, pd_shaped hc.2, ?_⟩
    rw [← pd_eqv _ _ 64 64 hc.1 hc.2]
    exact q
theorem op_neQ (hu : X.A.units + 64 < cLine) : OpR X (compareOp .NotEq) (rCo X.K fun S x y => nt (eqVal S x y)) := by
  intro pins s σ H v w vv ww Q I rv rw' h
  obtain ⟨hid, ρ, S, x, y, b, so, rx, ry, e, q⟩ := h
  simp only [nt, eqVal] at e
  split at e <;> cases e
  rename_i b hb
  split at hb
  · cases hb
    rename_i hc
    simp only [Bool.and_eq_true] at hc
    refine op_neD hu pins s σ H _ _ _ _ Q I rv rw' ⟨_, _, dp_res so rx hc.1, dp_res so ry hc.2, pd_shaped hc.1, pd_shaped hc.2, ?_⟩
    rw [← pd_eqv _ _ 64 64 hc.1 hc.2]
    exact q
  · split at hb <;> cases hb
    rename_i hc
    simp only [Bool.and_eq_true] at hc
    refine op_neD hu pins s σ H _ _ _ _ Q I rv rw' ⟨_, _, dp_resD so rx hc.1, dp_resD so ry hc.2, pd_shaped hc.1, pd_shaped hc.2, ?_⟩
    rw [← pd_eqv _ _ 64 64 hc.1 hc.2]
    exact q
theorem lexLt_iff : ∀ a b : List Nat, QE.lexLt a b = decide (a < b)
  | [], [] => by simp [QE.lexLt]
  | [], _ :: _ => by simp [QE.lexLt]
  | _ :: _, [] => by simp [QE.lexLt]
  | a :: r, b :: s => by
    unfold QE.lexLt
    by_cases h : a = b
    · subst h
      rw [if_pos rfl, lexLt_iff r s]
      simp [List.cons_lt_cons_iff]
    · rw [if_neg h]
      simp [List.cons_lt_cons_iff, h]
theorem ints_rep {K : PySem.W.Frag} {hid ρ : List Addr} {H : Hp} : ∀ {xs : List Val} {vs : List V} {is : List Int}, RepL K hid ρ H xs vs → ints? xs = some is → vs = is.map V.int
  | [], vs, is, r, e => by
    simp only [RepL] at r
    simp only [ints?] at e
    cases e
    exact r
  | x :: xs, vs, is, r, e => by
    simp only [RepL] at r
    obtain ⟨v, w, e1, r1, r2⟩ := r
    cases x <;> simp only [ints?] at e <;> try (cases e; done)
    split at e <;> cases e
    rename_i l hl
    rw [e1, r1.2.int_, ints_rep r2 hl]
    rfl
theorem lexLtI_eq : ∀ a b : List Int, lexLtI a b = HT.lexLt a b
  | [], [] => rfl
  | [], _ :: _ => rfl
  | _ :: _, [] => rfl
  | a :: r, b :: s => by
    unfold lexLtI
    rw [HT.lexLt_cons, lexLtI_eq r s]
theorem op_ltQ (hu : X.A.units < cLine) : OpR X (compareOp .Lt) (rCo X.K fun _ => ltVal) := by
  intro pins s σ H v w vv ww Q I rv rw' h
  obtain ⟨hid, ρ, S, x, y, b, so, rx, ry, e, q⟩ := h
  simp only [ltVal] at e
  split at e
  · cases e
    cases rx.int_; cases ry.int_
    exact op_lt pins s σ H _ _ _ _ Q I rv rw' ⟨_, _, rfl, rfl, q⟩
  · cases e
    cases rx.str_; cases ry.str_
    refine op_lt_str pins s σ H _ _ _ _ Q I rv rw' ⟨_, _, rfl, rfl, ?_⟩
    rw [strOf_list, strOf_list, ← lexLt_iff]
    exact q
  · split at e <;> cases e
    rename_i h1 h2
    obtain ⟨a, vs, e1, d1, r1⟩ := rx.tup_
    obtain ⟨b, ws, e2, d2, r2⟩ := ry.tup_
    have f1 := ints_rep r1 h1
    have f2 := ints_rep r2 h2
    subst e1 e2 f1 f2
    refine op_ltT hu pins s σ H _ _ _ _ Q I rv rw' ⟨_, _, _, _, rfl, rfl, SqT.of d1, SqT.of d2, ?_⟩
    rw [← lexLtI_eq]
    exact q
  · cases e
theorem op_gtQ : OpR X (compareOp .Gt) (rCo X.K fun _ => gtVal) := by
  intro pins s σ H v w vv ww Q I rv rw' h
  obtain ⟨hid, ρ, S, x, y, b, so, rx, ry, e, q⟩ := h
  simp only [gtVal] at e
  split at e <;> cases e
  cases rx.int_; cases ry.int_
  exact op_gt pins s σ H _ _ _ _ Q I rv rw' ⟨_, _, rfl, rfl, q⟩
theorem op_leQ : OpR X (compareOp .LtE) (rCo X.K fun _ => leVal) := by
  intro pins s σ H v w vv ww Q I rv rw' h
  obtain ⟨hid, ρ, S, x, y, b, so, rx, ry, e, q⟩ := h
  simp only [leVal] at e
  split at e <;> cases e
  cases rx.int_; cases ry.int_
  exact op_le pins s σ H _ _ _ _ Q I rv rw' ⟨_, _, rfl, rfl, q⟩
theorem op_geQ : OpR X (compareOp .GtE) (rCo X.K fun _ x y => leVal y x) := by
  intro pins s σ H v w vv ww Q I rv rw' h
  obtain ⟨hid, ρ, S, x, y, b, so, rx, ry, e, q⟩ := h
  simp only [leVal] at e
  split at e <;> cases e
  cases rx.int_; cases ry.int_
  exact op_ge pins s σ H _ _ _ _ Q I rv rw' ⟨_, _, rfl, rfl, q⟩
end
end QE

set_option Elab.async false
set_option linter.all false
set_option maxRecDepth 10000
set_option maxHeartbeats 1000000
/-! in, is, items, slices, dicts, by values. -/
namespace QE
open PySem PySem.Spec PyProof.Rows L2
section
variable {K : PySem.W.Frag} {hid ρ : List Addr} {H : Hp} {S : Sto}
theorem flatKey_rep {x : Val} {v : V} (h : x.flatKey = true) (r : Rep K hid ρ H x v) : v = kV (keyOf x) := by
  cases x <;> simp only [Val.flatKey] at h <;> try (cases h; done)
  · rw [r.int_]; rfl
  · rw [r.str_]; rfl
theorem flatKeys_rep : ∀ {xs : List Val} {vs : List V}, xs.all Val.flatKey = true → RepL K hid ρ H xs vs → vs = (xs.map keyOf).map kV
  | [], vs, _, r => by simp only [RepL] at r; exact r
  | x :: xs, vs, h, r => by
    simp only [RepL] at r
    obtain ⟨v, w, e, r1, r2⟩ := r
    simp only [List.all_cons, Bool.and_eq_true] at h
    rw [e, flatKey_rep h.1 r1.2, flatKeys_rep h.2 r2]
    rfl
theorem flatEq_iff {x y : Val} (hx : x.flatKey = true) (hy : y.flatKey = true) : flatEq x y = decide (keyOf x = keyOf y) := by
  cases x <;> simp only [Val.flatKey] at hx <;> try (cases hx; done)
  · cases y <;> simp only [Val.flatKey] at hy <;> try (cases hy; done)
    · rename_i a b
      show (a == b) = decide ((Sum.inl a : L2.Key) = Sum.inl b)
      exact (key_ll a b).symm
    · rename_i a b
      simp only [flatEq, keyOf]
      exact (decide_eq_false (fun z => nomatch z)).symm
  · cases y <;> simp only [Val.flatKey] at hy <;> try (cases hy; done)
    · rename_i a b
      simp only [flatEq, keyOf]
      exact (decide_eq_false (fun z => nomatch z)).symm
    · rename_i a b
      show (a == b) = decide ((Sum.inr (strOf a) : L2.Key) = Sum.inr (strOf b))
      rw [key_rr]
      by_cases h : a = b
      · subst h; simp
      · rw [decide_eq_false (fun z => h (strOf_inj z))]; exact beq_eq_false_iff_ne.mpr h
theorem flatEqL_iff : ∀ {xs ys : List Val}, xs.all Val.flatKey = true → ys.all Val.flatKey = true → flatEqL xs ys = decide (xs.map keyOf = ys.map keyOf)
  | [], [], _, _ => by simp [flatEqL]
  | [], _ :: _, _, _ => by simp [flatEqL]
  | _ :: _, [], _, _ => by simp [flatEqL]
  | x :: xs, y :: ys, h1, h2 => by
    simp only [List.all_cons, Bool.and_eq_true] at h1 h2
    simp only [flatEqL, flatEq_iff h1.1 h2.1, flatEqL_iff h1.2 h2.2, List.map_cons, List.cons.injEq, Bool.decide_and]
theorem isKey_true {x : Val} (h : x.isKey true = true) : ∃ xs, x = .tup xs ∧ xs.all Val.flatKey = true := by
  cases x <;> simp [Val.isKey] at h
  exact ⟨_, rfl, by simpa using h⟩
theorem keyEq_t {x y : Val} (hx : x.isKey true = true) (hy : y.isKey true = true) : keyEq x y = decide (keysOf x = keysOf y) := by
  obtain ⟨xs, rfl, h1⟩ := isKey_true hx
  obtain ⟨ys, rfl, h2⟩ := isKey_true hy
  simp only [keyEq, keysOf]
  exact flatEqL_iff h1 h2
theorem keyEq_f {x y : Val} (hx : x.flatKey = true) (hy : y.flatKey = true) : keyEq x y = decide (keyOf x = keyOf y) := by
  rw [← flatEq_iff hx hy]
  cases x <;> simp only [Val.flatKey] at hx <;> (try (cases hx; done)) <;> cases y <;> simp only [Val.flatKey] at hy <;> (try (cases hy; done)) <;> rfl
/-- a look-up, in both -/
theorem dGet_t {k : Val} (hk : k.isKey true = true) : ∀ {kvs : List (Val × Val)} {ws : List (List L2.Key × V)}, RepT K hid ρ H kvs ws →
    (∀ x, dGet k kvs = some x → ∃ v, valV ws (keysOf k) = some v ∧ x.st = true ∧ Rep K hid ρ H x v) ∧ (dGet k kvs = none → valV ws (keysOf k) = none)
  | [], ws, r => by
    simp only [RepT] at r
    subst r
    exact ⟨fun x e => by simp [dGet] at e, fun _ => rfl⟩
  | (q, u) :: kvs, ws, r => by
    simp only [RepT] at r
    obtain ⟨v, w, e, hq, r1, r2⟩ := r
    subst e
    have ih := dGet_t hk r2
    simp only [dGet, keyEq_t hq hk, decide_eq_true_eq]
    by_cases z : keysOf q = keysOf k
    · simp only [if_pos z]
      refine ⟨fun x e => ?_, fun e => by cases e⟩
      cases e
      exact ⟨v, valV_pos z, r1⟩
    · simp only [if_neg z]
      rw [valV_neg z]
      exact ih
theorem dGet_f {k : Val} (hk : k.flatKey = true) : ∀ {kvs : List (Val × Val)} {ws : List (L2.Key × V)}, RepK K hid ρ H kvs ws →
    (∀ x, dGet k kvs = some x → ∃ v, valV ws (keyOf k) = some v ∧ x.st = true ∧ Rep K hid ρ H x v) ∧ (dGet k kvs = none → valV ws (keyOf k) = none)
  | [], ws, r => by
    simp only [RepK] at r
    subst r
    exact ⟨fun x e => by simp [dGet] at e, fun _ => rfl⟩
  | (q, u) :: kvs, ws, r => by
    simp only [RepK] at r
    obtain ⟨v, w, e, hq, r1, r2⟩ := r
    subst e
    have ih := dGet_f hk r2
    simp only [dGet, keyEq_f hq hk, decide_eq_true_eq]
    by_cases z : keyOf q = keyOf k
    · simp only [if_pos z]
      refine ⟨fun x e => ?_, fun e => by cases e⟩
      cases e
      exact ⟨v, valV_pos z, r1⟩
    · simp only [if_neg z]
      rw [valV_neg z]
      exact ih
/-- what a dict value says -/
theorem asDic_rep (so : SOk K hid ρ H S) {x : Val} {v : V} {t : Bool} {kvs : List (Val × Val)} (e : asDic S x = some (t, kvs)) (r : Rep K hid ρ H x v) :
    ∃ a, v = .ref a ∧ ((t = true ∧ ∃ ws, Rd H a (.dT ws) ∧ RepT K hid ρ H kvs ws) ∨ (t = false ∧ ∃ ws, Rd H a (.dK ws) ∧ RepK K hid ρ H kvs ws)) := by
  cases x with
  | dic f t' kvs' =>
    simp only [asDic, Option.some.injEq, Prod.mk.injEq] at e
    obtain ⟨rfl, rfl⟩ := e
    cases t'
    · simp only [Rep] at r
      obtain ⟨a, ws, h1, h2, _, _, h5⟩ := r
      exact ⟨a, h1, .inr ⟨rfl, ws, h2.rd, h5⟩⟩
    · simp only [Rep] at r
      obtain ⟨a, ws, h1, h2, _, _, h5⟩ := r
      exact ⟨a, h1, .inl ⟨rfl, ws, h2.rd, h5⟩⟩
  | ref n =>
    simp only [asDic] at e
    split at e
    · rename_i t' kvs' q
      cases e
      simp only [Rep] at r
      obtain ⟨a, h1, h2⟩ := r
      obtain ⟨b, h3, h4⟩ := so.ob n _ q
      rw [h1] at h3; cases h3
      cases t
      · obtain ⟨ws, h5, h6⟩ := h4; exact ⟨a, h2, .inr ⟨rfl, ws, .inl h5, h6⟩⟩
      · obtain ⟨ws, h5, h6⟩ := h4; exact ⟨a, h2, .inl ⟨rfl, ws, .inl h5, h6⟩⟩
    · cases e
  | _ => simp [asDic] at e
/-- the layer's look-up of it -/
theorem dget_rep (so : SOk K hid ρ H S) {x k : Val} {v kv : V} {t : Bool} {kvs : List (Val × Val)} (e : asDic S x = some (t, kvs)) (r : Rep K hid ρ H x v) (hk : k.isKey t = true) (rk : Rep K hid ρ H k kv) :
    ∃ a o, v = .ref a ∧ DGet H a kv o ∧ o.isSome = (dGet k kvs).isSome ∧ ∀ y, dGet k kvs = some y → ∃ u, o = some u ∧ y.st = true ∧ Rep K hid ρ H y u := by
  obtain ⟨a, ea, h⟩ := asDic_rep so e r
  rcases h with ⟨rfl, ws, h1, h2⟩ | ⟨rfl, ws, h1, h2⟩
  · obtain ⟨ks, e2, h3⟩ := isKey_true hk
    subst e2
    obtain ⟨b, vs, e3, h4, r4⟩ := rk.tup_
    have h5 := flatKeys_rep h3 r4
    subst e3 h5
    have g := dGet_t hk h2
    refine ⟨a, _, ea, .inr ⟨_, _, _, h1, rfl, h4, rfl⟩, ?_, fun y q => g.1 y q⟩
    cases q : dGet (.tup ks) kvs with
    | none => rw [show valV ws (ks.map keyOf) = none from g.2 q]; rfl
    | some y => obtain ⟨u, h6, _⟩ := g.1 y q; rw [show valV ws (ks.map keyOf) = some u from h6]; rfl
  · have h3 : k.flatKey = true := by simpa [Val.isKey] using hk
    have h4 := flatKey_rep h3 rk
    subst h4
    have g := dGet_f h3 h2
    refine ⟨a, _, ea, .inl ⟨_, _, h1, rfl, rfl⟩, ?_, fun y q => g.1 y q⟩
    cases q : dGet k kvs with
    | none => rw [g.2 q]; rfl
    | some y => obtain ⟨u, h6, _⟩ := g.1 y q; rw [h6]; rfl

theorem flat_V {x : Val} {v : V} (h : x.flat = true) (r : Rep K hid ρ H x v) : flatV v = true := by
  cases x <;> simp only [Val.flat] at h <;> try (cases h; done)
  · rw [r.non_]; rfl
  · rw [r.bl_]; rfl
  · rw [r.int_]; rfl
  · rw [r.str_]; rfl
theorem flat_Vs : ∀ {xs : List Val} {vs : List V}, xs.all Val.flat = true → RepL K hid ρ H xs vs → vs.all flatV = true
  | [], vs, _, r => by simp only [RepL] at r; subst r; rfl
  | x :: xs, vs, h, r => by
    simp only [RepL] at r
    obtain ⟨v, w, e, r1, r2⟩ := r
    simp only [List.all_cons, Bool.and_eq_true] at h
    rw [e, List.all_cons, flat_V h.1 r1.2, flat_Vs h.2 r2]
    rfl
theorem str_beq (a b : List Nat) : (strOf a == strOf b) = (a == b) := by
  by_cases h : a = b
  · subst h; simp
  · rw [beq_eq_false_iff_ne.mpr h, beq_eq_false_iff_ne.mpr (fun z => h (strOf_inj z))]
theorem flat_eqV {x y : Val} {v w : V} (hx : x.flat = true) (hy : y.flat = true) (r : Rep K hid ρ H x v) (q : Rep K hid ρ H y w) : eqV v w = x.eqv y := by
  cases x <;> simp only [Val.flat] at hx <;> (try (cases hx; done)) <;> cases y <;> simp only [Val.flat] at hy <;> (try (cases hy; done)) <;>
    (simp only [Rep] at r q; subst r q; simp only [eqV, Val.eqv, str_beq])
theorem flat_any {x : Val} {v : V} (hx : x.flat = true) (r : Rep K hid ρ H x v) : ∀ {ys : List Val} {vs : List V}, ys.all Val.flat = true → RepL K hid ρ H ys vs → inV v vs = ys.any fun y => y.eqv x
  | [], vs, _, q => by simp only [RepL] at q; subst q; rfl
  | y :: ys, vs, h, q => by
    simp only [RepL] at q
    obtain ⟨w, l, e, r1, r2⟩ := q
    simp only [List.all_cons, Bool.and_eq_true] at h
    have ih := flat_any hx r h.2 r2
    unfold inV at ih ⊢
    rw [e, List.any_cons, List.any_cons, ih, flat_eqV h.1 hx r1.2 r]
theorem pdL_any {x : Val} (hx : x.chk 64 = true) : ∀ (ys : List Val) (d : Nat), Val.chkL d ys = true → ((pdL ys).any fun z => PyData.eqv z (pd x)) = ys.any fun y => y.eqv x
  | [], _, _ => rfl
  | y :: ys, d, h => by
    simp only [Val.chkL, Bool.and_eq_true] at h
    simp only [pdL, List.any_cons]
    rw [pdL_any hx ys d h.2, pd_eqv y x d 64 h.1 hx]
theorem dp_list (so : SOk K hid ρ H S) {y : Val} {v : V} {ys : List Val} (e : asList S y = some ys) (r : Rep K hid ρ H y v) (h : Val.chkL 63 ys = true) : Dp K H v (.list (pdL ys)) := by
  obtain ⟨a, vs, e1, h1, r1⟩ := asList_rep so e r
  subst e1
  exact .lst (.inl h1) (dp_ofL 63 ys vs h r1)
end
section
variable {X : Cx}
theorem in_both (neg : Bool) (hu : X.A.units + 65 < cLine) {op : CmpOp} (hop : op = if neg then .NotIn else .In) : OpR X (compareOp op) (rCo X.K fun S x y => if neg then nt (isIn S x y) else isIn S x y) := by
  intro pins s σ H v w vv ww Q I rv rw' h
  obtain ⟨hid, ρ, S, x, y, b, so, rx, ry, e, q⟩ := h
  have e' : ∃ c, isIn S x y = some c ∧ b = if neg then !c else c := by
    cases neg
    · exact ⟨b, e, rfl⟩
    · simp only [if_true, nt] at e
      split at e <;> cases e
      rename_i c hc
      exact ⟨c, hc, rfl⟩
  clear e
  obtain ⟨c, e, eb⟩ := e'
  subst eb
  unfold isIn at e
  split at e
  · rename_i bs
    unfold hasStr at e
    split at e <;> cases e
    rename_i c0
    cases rx.str_; cases ry.str_
    cases neg
    · subst hop
      refine op_in_sign pins s σ H _ _ _ _ Q I rv rw' ⟨c0, _, rfl, rfl, ?_⟩
      rw [strOf_list]
      exact q
    · subst hop
      refine op_notIn_sign pins s σ H _ _ _ _ Q I rv rw' ⟨c0, _, rfl, rfl, ?_⟩
      rw [strOf_list]
      exact q
  · rename_i ys
    unfold hasFlat at e
    split at e <;> cases e
    rename_i hf
    simp only [Bool.and_eq_true] at hf
    obtain ⟨a, vs, e1, h1, r1⟩ := ry.tup_
    subst e1
    have q' := flat_any hf.1 rx hf.2 r1
    cases neg
    · subst hop
      refine op_in_seq pins s σ H _ _ _ _ Q I rv rw' ⟨a, vs, rfl, .inr (SqT.of h1), flat_V hf.1 rx, flat_Vs hf.2 r1, ?_⟩
      simp only [Bool.false_eq_true, if_false, q'] at q ⊢
      exact q
    · subst hop
      refine op_notIn_seq pins s σ H _ _ _ _ Q I rv rw' ⟨a, vs, rfl, .inr (SqT.of h1), flat_V hf.1 rx, flat_Vs hf.2 r1, ?_⟩
      simp only [if_true, q'] at q ⊢
      exact q
  · rename_i ys
    unfold hasFlat at e
    split at e <;> cases e
    rename_i hf
    simp only [Bool.and_eq_true] at hf
    simp only [Rep] at ry
    obtain ⟨a, vs, e1, h1, r1⟩ := ry
    subst e1
    have q' := flat_any hf.1 rx hf.2 r1
    cases neg
    · subst hop
      refine op_in_seq pins s σ H _ _ _ _ Q I rv rw' ⟨a, vs, rfl, .inr (.inl h1.rd), flat_V hf.1 rx, flat_Vs hf.2 r1, ?_⟩
      simp only [Bool.false_eq_true, if_false, q'] at q ⊢
      exact q
    · subst hop
      refine op_notIn_seq pins s σ H _ _ _ _ Q I rv rw' ⟨a, vs, rfl, .inr (.inl h1.rd), flat_V hf.1 rx, flat_Vs hf.2 r1, ?_⟩
      simp only [if_true, q'] at q ⊢
      exact q
  · split at e
    · rename_i ys hl
      unfold anyEq at e
      split at e <;> cases e
      rename_i hc
      simp only [Bool.and_eq_true] at hc
      have p1 := pdL_any hc.1 ys 63 hc.2
      cases neg
      · subst hop
        refine op_inD hu pins s σ H _ _ _ _ Q I rv rw' ⟨_, _, dp_of 64 x v hc.1 rx, dp_list so hl ry hc.2, pd_shaped hc.1, (pdL_shaped hc.2).1, ?_⟩
        rw [p1]
        exact q
      · subst hop
        refine op_notInD hu pins s σ H _ _ _ _ Q I rv rw' ⟨_, _, dp_of 64 x v hc.1 rx, dp_list so hl ry hc.2, pd_shaped hc.1, (pdL_shaped hc.2).1, ?_⟩
        rw [p1]
        exact q
    · unfold hasDic at e
      split at e
      · rename_i t kvs hd
        split at e <;> cases e
        rename_i hk
        obtain ⟨a, o, ea, g, ho, _⟩ := dget_rep so hd ry hk rx
        subst ea
        cases rw'
        rw [← ho] at q
        cases neg
        · subst hop
          exact d_in (by omega) I g rv fun s' I' => ⟨.bl _, H, I', rfl, q⟩
        · subst hop
          exact d_notIn (by omega) I g rv fun s' I' => ⟨.bl _, H, I', rfl, q⟩
      · cases e
theorem op_inQ (hu : X.A.units + 65 < cLine) : OpR X (compareOp .In) (rCo X.K isIn) := in_both false hu rfl
theorem op_ninQ (hu : X.A.units + 65 < cLine) : OpR X (compareOp .NotIn) (rCo X.K fun S x y => nt (isIn S x y)) := in_both true hu rfl
theorem non_iff {K : PySem.W.Frag} {hid ρ : List Addr} {H : Hp} {x : Val} {v : V} (r : Rep K hid ρ H x v) (h : x ≠ .non) : v ≠ .non := by
  intro z
  subst z
  cases x with
  | non => exact h rfl
  | bl b => cases r.bl_
  | int b => cases r.int_
  | str b => cases r.str_
  | tup xs => obtain ⟨a, vs, e, _⟩ := r.tup_; cases e
  | lst f xs => simp only [Rep] at r; obtain ⟨a, vs, e, _⟩ := r; cases e
  | dic f t kvs => cases t <;> (simp only [Rep] at r; obtain ⟨a, vs, e, _⟩ := r; cases e)
  | ref n => simp only [Rep] at r; obtain ⟨a, _, e⟩ := r; cases e
  | kls ns => simp only [Rep] at r; obtain ⟨a, e, _⟩ := r; cases e
  | fn f a => simp only [Rep] at r; cases r
  | exn k a => simp only [Rep] at r; cases r
  | ptup xs => simp only [Rep] at r; obtain ⟨a, vs, e, _⟩ := r; cases e
theorem is_both (neg : Bool) {op : CmpOp} (hop : op = if neg then .IsNot else .Is) : OpR X (compareOp op) (rCo X.K fun _ x y => if neg then nt (isVal x y) else isVal x y) := by
  intro pins s σ H v w vv ww Q I rv rw' h
  obtain ⟨hid, ρ, S, x, y, b, so, rx, ry, e, q⟩ := h
  have e' : ∃ c, isVal x y = some c ∧ b = if neg then !c else c := by
    cases neg
    · exact ⟨b, e, rfl⟩
    · simp only [if_true, nt] at e
      split at e <;> cases e
      rename_i c hc
      exact ⟨c, hc, rfl⟩
  clear e
  obtain ⟨c, e, eb⟩ := e'
  subst eb
  unfold isVal at e
  split at e
  · cases e
    cases rx.non_; cases ry.non_
    cases neg
    · subst hop; exact op_isN pins s σ H _ _ _ _ Q I rv rw' ⟨rfl, q⟩
    · subst hop; exact op_notN pins s σ H _ _ _ _ Q I rv rw' ⟨rfl, q⟩
  · cases e
    cases rx.bl_; cases ry.bl_
    cases neg
    · subst hop; exact op_isBl pins s σ H _ _ _ _ Q I rv rw' ⟨_, _, rfl, rfl, q⟩
    · subst hop; exact op_notBl pins s σ H _ _ _ _ Q I rv rw' ⟨_, _, rfl, rfl, q⟩
  · rename_i hx
    cases e
    cases ry.non_
    have hn := non_iff rx (fun z => hx z)
    cases neg
    · subst hop; exact op_isN pins s σ H _ _ _ _ Q I rv rw' ⟨rfl, by rw [decide_eq_false hn]; exact q⟩
    · subst hop; exact op_notN pins s σ H _ _ _ _ Q I rv rw' ⟨rfl, by rw [decide_eq_false hn]; exact q⟩
  · cases e
theorem op_isQ : OpR X (compareOp .Is) (rCo X.K fun _ x y => isVal x y) := is_both false rfl
theorem op_isnQ : OpR X (compareOp .IsNot) (rCo X.K fun _ x y => nt (isVal x y)) := is_both true rfl
end
end QE

set_option Elab.async false
set_option linter.all false
set_option maxRecDepth 10000
set_option maxHeartbeats 1000000
/-! Items, slices, built-ins, by values. -/
namespace QE
open PySem PySem.Spec PyProof.Rows L2
theorem ixN_eq (n : Nat) (i : Int) : QE.ixN n i = L2.ixN n i := rfl
theorem atI_eq {α : Type} (xs : List α) (i : Int) : QE.atI xs i = L2.atI xs i := by
  unfold QE.atI L2.atI
  rw [ixN_eq]
  cases L2.ixN xs.length i <;> rfl
theorem clip_sIx (n d : Nat) (o : Option Int) : clip n d o = HT.sIx n d o := by cases o <;> rfl
section
variable {K : PySem.W.Frag} {hid ρ : List Addr} {H : Hp} {S : Sto}
theorem RepL.atI {xs : List Val} {vs : List V} {i : Int} {x : Val} (r : RepL K hid ρ H xs vs) (e : QE.atI xs i = some x) : ∃ v, L2.atI vs i = some v ∧ x.st = true ∧ Rep K hid ρ H x v := by
  rw [atI_eq] at e
  unfold L2.atI at e ⊢
  rw [r.length]
  cases h : L2.ixN xs.length i with
  | none => rw [h] at e; cases e
  | some j => rw [h] at e; exact r.get e
theorem itemOf_int {α : Type} {xs : List α} {i : Val} {x : α} (e : itemOf xs i = some x) : ∃ k, i = .int k ∧ QE.atI xs k = some x := by
  cases i <;> simp only [itemOf] at e <;> try (cases e; done)
  exact ⟨_, rfl, e⟩
theorem RepL.cut {xs : List Val} {vs : List V} (r : RepL K hid ρ H xs vs) (lo hi : Option Int) : RepL K hid ρ H (cut xs lo hi) (cutV vs lo hi) := by
  unfold QE.cut cutV
  rw [r.length, clip_sIx, clip_sIx]
  exact (r.drop _).take _
end
section
variable {X : Cx}
theorem ix_dict (hu : X.A.units + 1 < cLine) : IxR X (fun x y H Q => ∃ a v, x = .ref a ∧ DGet H a y (some v) ∧ Q v H) := by
  intro value slice pins s σ H x y v u Q I rx ry h hs
  obtain ⟨a, w, ex, g, q⟩ := h
  subst ex
  cases rx
  exact tail_any (dict_typeIs I g) PySem.F.slot_dict_getitem.lookup (d_getItem hu I g ry fun w' s' I' rw' => ⟨w, H, I', rw', q⟩) hs
theorem ix_Q (hu : X.A.units + 1 < cLine) : IxR X (rOf X.K item) := by
  intro value slice pins s σ H v w vv ww Q I rv rw' h hs
  obtain ⟨hid, ρ, S, x, y, so, rx, ry, h⟩ := h
  obtain ⟨z, e, hh⟩ := h.of
  clear h
  unfold item at e
  split at e
  · rename_i xs
    obtain ⟨k, ey, e⟩ := itemOf_int e
    subst ey
    obtain ⟨a, vs, ea, h1, r1⟩ := rx.tup_
    obtain ⟨u, hu', r2⟩ := r1.atI e
    subst ea
    cases ry.int_
    refine ix_tup value slice pins s σ H _ _ _ _ Q I rv rw' ⟨a, vs, k, u, rfl, rfl, SqT.of h1, hu', ?_⟩ hs
    exact fin_same so hh r2.2 (.of_st r2.1)
  · rename_i xs
    obtain ⟨k, ey, e⟩ := itemOf_int e
    subst ey
    simp only [Rep] at rx
    obtain ⟨a, vs, ea, h1, r1⟩ := rx
    obtain ⟨u, hu', r2⟩ := r1.atI e
    subst ea
    cases ry.int_
    refine ix_tup value slice pins s σ H _ _ _ _ Q I rv rw' ⟨a, vs, k, u, rfl, rfl, .inl h1.rd, hu', ?_⟩ hs
    exact fin_same so hh r2.2 (.of_st r2.1)
  · rename_i bs
    split at e
    · rename_i hz
      cases hc : itemOf bs y with
      | none => rw [hc] at e; cases e
      | some c =>
        rw [hc] at e
        cases e
        obtain ⟨k, ey, e⟩ := itemOf_int hc
        subst ey
        cases rx.str_; cases ry.int_
        refine ix_str value slice pins s σ H _ _ _ _ Q I rv rw' ⟨_, k, c, rfl, rfl, ?_, ?_, fin_same so hh .of_str⟩ hs
        · rw [strOf_len, ← lim_eq]; exact hz
        · rw [strOf_list, ← atI_eq]; exact e
    · cases e
  · split at e
    · rename_i xs hl
      obtain ⟨k, ey, e⟩ := itemOf_int e
      subst ey
      obtain ⟨a, vs, ea, h1, r1⟩ := asList_rep so hl rx
      obtain ⟨u, hu', r2⟩ := r1.atI e
      subst ea
      cases ry.int_
      refine ix_list value slice pins s σ H _ _ _ _ Q I rv rw' ⟨a, vs, k, u, rfl, rfl, .inl h1, hu', ?_⟩ hs
      exact fin_same so hh r2.2 (.of_st r2.1)
    · unfold itemDic at e
      split at e
      · rename_i t kvs hd
        split at e
        · rename_i hk
          obtain ⟨a, o, ea, g, _, hy⟩ := dget_rep so hd rx hk ry
          obtain ⟨u, eo, r2⟩ := hy z e
          subst eo ea
          refine ix_dict hu value slice pins s σ H _ _ _ _ Q I rv rw' ⟨a, u, rfl, g, ?_⟩ hs
          exact fin_same so hh r2.2 (.of_st r2.1)
        · cases e
      · cases e

/-! ### slices -/
def rSl (K : PySem.W.Frag) : V → Option Int → Option Int → Hp → VK → Prop := fun v lo hi H Q => ∃ hid ρ S x, SOk K hid ρ H S ∧ Rep K hid ρ H x v ∧ Out K hid ρ H (R.of (QE.slice S x lo hi) S) (Gv K hid H Q)
theorem sl_Q : SlR X (rSl X.K) := by
  intro pins s σ H v vv vl vu lo hi sl Q I rv hs pl pu h
  obtain ⟨hid, ρ, S, x, so, rx, h⟩ := h
  obtain ⟨z, e, hh⟩ := h.of
  clear h
  unfold QE.slice at e
  split at e
  · rename_i xs
    cases e
    obtain ⟨a, vs, ea, h1, r1⟩ := rx.tup_
    subst ea
    refine sl_tupA pins s σ H _ _ vl vu lo hi sl Q I rv hs pl pu ⟨a, vs, rfl, SqT.of h1, fun hw => ?_, fun _ p hp => fin_new so hh hp (rep_newT hp (r1.cut lo hi)) trivial⟩
    have e1 : cut xs lo hi = xs := by
      unfold QE.cut
      rw [clip_sIx, clip_sIx]
      rw [r1.length] at hw
      rw [hw.1, hw.2]
      simp
    rw [e1] at hh
    exact fin_same so hh (.of_tup h1 r1) trivial
  · rename_i xs
    have rx0 := rx
    simp only [Rep] at rx0
    obtain ⟨a, vs, ea, h1, r1⟩ := rx0
    subst ea
    have l1 := r1.length
    split at e <;> cases e
    · rename_i hc
      rw [clip_sIx, clip_sIx, ← l1] at hc
      exact sl_tupA pins s σ H _ _ vl vu lo hi sl Q I rv hs pl pu ⟨a, vs, rfl, .inl h1.rd, fun _ => fin_same so hh rx trivial, fun hw => absurd hc hw⟩
    · rename_i hc
      rw [clip_sIx, clip_sIx, ← l1] at hc
      exact sl_tupA pins s σ H _ _ vl vu lo hi sl Q I rv hs pl pu ⟨a, vs, rfl, .inl h1.rd, fun hw => absurd hw hc, fun _ p hp => fin_new so hh hp (rep_newT hp (r1.cut lo hi)) trivial⟩
  · rename_i bs
    split at e <;> cases e
    rename_i hz
    cases rx.str_
    refine sl_str pins s σ H _ _ vl vu lo hi sl Q I rv hs pl pu ⟨_, rfl, by rw [strOf_len, ← lim_eq]; exact hz, ?_⟩
    have e1 : cutS (strOf bs) lo hi = strOf (cut bs lo hi) := by
      unfold cutS QE.cut
      rw [strOf_list, strOf_len, clip_sIx, clip_sIx]
      rfl
    rw [e1]
    exact fin_same so hh .of_str trivial
  · split at e <;> cases e
    rename_i xs hl
    obtain ⟨a, vs, ea, h1, r1⟩ := asList_rep so hl rx
    subst ea
    exact sl_list pins s σ H _ _ vl vu lo hi sl Q I rv hs pl pu ⟨a, vs, rfl, .inl h1, fun p hp => fin_new so hh hp (rep_newL so hp (r1.cut lo hi)) (fresh_newL so hp (.of hp) (r1.cut lo hi))⟩

/-! ### built-ins -/
def rBi (K : PySem.W.Frag) (f : Sto → List Val → Option Val) : List V → Hp → VK → Prop := fun vs H Q => ∃ hid ρ S xs, SOk K hid ρ H S ∧ RepL K hid ρ H xs vs ∧ Out K hid ρ H (R.of (f S xs) S) (Gv K hid H Q)
section
variable {K : PySem.W.Frag} {hid ρ : List Addr} {H : Hp} {S : Sto}
theorem RepL.one {x : Val} {vs : List V} (r : RepL K hid ρ H [x] vs) : ∃ v, vs = [v] ∧ Rep K hid ρ H x v := by
  simp only [RepL] at r
  obtain ⟨v, w, e, r1, r2⟩ := r
  exact ⟨v, by rw [e, r2], r1.2⟩
theorem RepL.two {x y : Val} {vs : List V} (r : RepL K hid ρ H [x, y] vs) : ∃ v w, vs = [v, w] ∧ Rep K hid ρ H x v ∧ Rep K hid ρ H y w := by
  simp only [RepL] at r
  obtain ⟨v, w, e, r1, u, l, e2, r2, r3⟩ := r
  exact ⟨v, u, by rw [e, e2, r3], r1.2, r2.2⟩
theorem bools_rep : ∀ {xs : List Val} {vs : List V} {bs : List Bool}, RepL K hid ρ H xs vs → bools? xs = some bs → vs = bs.map V.bl
  | [], vs, bs, r, e => by
    simp only [RepL] at r
    simp only [bools?] at e
    cases e
    exact r
  | x :: xs, vs, bs, r, e => by
    simp only [RepL] at r
    obtain ⟨v, w, e1, r1, r2⟩ := r
    cases x <;> simp only [bools?] at e <;> try (cases e; done)
    split at e <;> cases e
    rename_i l hl
    rw [e1, r1.2.bl_, bools_rep r2 hl]
    rfl
theorem boolsOf_rep (so : SOk K hid ρ H S) {x : Val} {v : V} {bs : List Bool} (e : boolsV S x = some bs) (r : Rep K hid ρ H x v) : ∃ a, v = .ref a ∧ SqL K H a (bs.map V.bl) := by
  unfold boolsV at e
  split at e
  · rename_i xs hl
    obtain ⟨a, vs, ea, h1, r1⟩ := asList_rep so hl r
    exact ⟨a, ea, by rw [← bools_rep r1 e]; exact .inl h1⟩
  · cases e
theorem intsOf_rep (so : SOk K hid ρ H S) {x : Val} {v : V} {is : List Int} (e : intsV S x = some is) (r : Rep K hid ρ H x v) : ∃ a, v = .ref a ∧ SqL K H a (is.map V.int) := by
  unfold intsV at e
  split at e
  · rename_i xs hl
    obtain ⟨a, vs, ea, h1, r1⟩ := asList_rep so hl r
    exact ⟨a, ea, by rw [← ints_rep r1 e]; exact .inl h1⟩
  · cases e
end
theorem cr_len : CallR X (.builtin "len") (rBi X.K fun S xs => callBi S .len xs) := by
  intro pins s σ H vs us Q I r h
  obtain ⟨hid, ρ, S, xs, so, rx, h⟩ := h
  obtain ⟨z, e, hh⟩ := h.of
  clear h
  match xs, rx, e with
  | [x], rx, e =>
    obtain ⟨v, ev, r1⟩ := rx.one
    subst ev
    simp only [callBi, lenOf] at e
    split at e
    · split at e <;> cases e
      rename_i hz
      cases r1.str_
      refine call_len_str pins s σ H _ _ Q I r ⟨_, rfl, by rw [strOf_len, ← lim_eq]; exact hz, ?_⟩
      rw [strOf_len]
      exact fin_same so hh .of_int trivial
    · split at e <;> cases e
      rename_i ys hl
      obtain ⟨a, ws, ea, h1, r2⟩ := asSeq_rep so hl r1
      subst ea
      refine call_len_seq pins s σ H _ _ Q I r ⟨a, ws, rfl, h1, ?_⟩
      rw [r2.length]
      exact fin_same so hh .of_int trivial
theorem cr_allQ (hc : X.calm = true) : CallR X (.builtin "all") (rBi X.K fun S xs => callBi S .all xs) := by
  intro pins s σ H vs us Q I r h
  obtain ⟨hid, ρ, S, xs, so, rx, h⟩ := h
  obtain ⟨z, e, hh⟩ := h.of
  clear h
  match xs, rx, e with
  | [x], rx, e =>
    obtain ⟨v, ev, r1⟩ := rx.one
    subst ev
    simp only [callBi] at e
    split at e <;> cases e
    rename_i bs hb
    obtain ⟨a, ea, h1⟩ := boolsOf_rep so hb r1
    subst ea
    exact cr_all hc pins s σ H _ _ Q I r ⟨a, bs, rfl, h1, fin_same so hh .of_bl trivial⟩
theorem cr_anyQ (hc : X.calm = true) : CallR X (.builtin "any") (rBi X.K fun S xs => callBi S .any xs) := by
  intro pins s σ H vs us Q I r h
  obtain ⟨hid, ρ, S, xs, so, rx, h⟩ := h
  obtain ⟨z, e, hh⟩ := h.of
  clear h
  match xs, rx, e with
  | [x], rx, e =>
    obtain ⟨v, ev, r1⟩ := rx.one
    subst ev
    simp only [callBi] at e
    split at e <;> cases e
    rename_i bs hb
    obtain ⟨a, ea, h1⟩ := boolsOf_rep so hb r1
    subst ea
    exact cr_any hc pins s σ H _ _ Q I r ⟨a, bs, rfl, h1, fin_same so hh .of_bl trivial⟩
/-- sum(t) of a tuple of ints -/
theorem cr_sumT (hc : X.calm = true) : CallR X (.builtin "sum") (fun vs H Q => ∃ (a : Addr) (ns : List Int), vs = [V.ref a] ∧ SqT X.K H a (ns.map V.int) ∧ Q (.int ns.sum) H) := by
  intro pins s σ H vs us Q I r h
  obtain ⟨a, ns, ev, hs, q⟩ := h
  subst ev
  obtain ⟨its, rv, pl, _⟩ := I.tuple hs
  rw [Vals.ref1 r]
  have hi := rv.ints
  obtain ⟨xs, e⟩ := hi.allInts.items
  have hn : numsOf (intItems xs).toList = ns := by
    rw [← e]
    exact hi.numsOf
  rw [nums_intItems] at hn
  rw [e] at pl
  exact PySem.W.ktm_sumG (I.ok.hd hc) pl fun h' tk t' hk => ⟨.int ns.sum, H, I.kept hk, ⟨t', by rw [preSum_eq, List.take_of_length_le (by simp), hn]⟩, q⟩
theorem cr_sumQ (hc : X.calm = true) : CallR X (.builtin "sum") (rBi X.K fun S xs => callBi S .sum xs) := by
  intro pins s σ H vs us Q I r h
  obtain ⟨hid, ρ, S, xs, so, rx, h⟩ := h
  obtain ⟨z, e, hh⟩ := h.of
  clear h
  match xs, rx, e with
  | [x], rx, e =>
    obtain ⟨v, ev, r1⟩ := rx.one
    subst ev
    simp only [callBi] at e
    split at e <;> cases e
    rename_i bs hb
    unfold intsT at hb
    split at hb <;> try (cases hb; done)
    rename_i ys hl
    obtain ⟨a, ws, ea, h1, r2⟩ := asSeq_rep so hl r1
    subst ea
    rw [ints_rep r2 hb] at h1
    rcases h1 with h1 | h1
    · exact cr_sum hc pins s σ H _ _ Q I r ⟨a, bs, rfl, h1, fin_same so hh .of_int trivial⟩
    · exact cr_sumT hc pins s σ H _ _ Q I r ⟨a, bs, rfl, h1, fin_same so hh .of_int trivial⟩
theorem cr_listQ : CallR X (.type "list") (rBi X.K fun S xs => callBi S .list xs) := by
  intro pins s σ H vs us Q I r h
  obtain ⟨hid, ρ, S, xs, so, rx, h⟩ := h
  obtain ⟨z, e, hh⟩ := h.of
  clear h
  match xs, rx, e with
  | [x], rx, e =>
    obtain ⟨v, ev, r1⟩ := rx.one
    subst ev
    simp only [callBi, listOf] at e
    split at e
    · rename_i ns
      cases e
      simp only [Rep] at r1
      obtain ⟨a, ea, hk⟩ := r1
      subst ea
      have r2 : RepL X.K hid ρ H (ns.map .int) (ns.map V.int) := by
        clear hk hh rx e
        induction ns with
        | nil => exact .nil
        | cons n ns ih => exact .cons ⟨rfl, .of_int⟩ ih
      exact call_list_of pins s σ H _ _ Q I r ⟨a, _, rfl, .inl (.inr hk), fun p hp => fin_new so hh hp (rep_newL so hp r2) (fresh_newL so hp (.of hp) r2)⟩
    split at e <;> cases e
    rename_i ys hl
    obtain ⟨a, ws, ea, h1, r2⟩ := asSeq_rep so hl r1
    subst ea
    exact call_list_of pins s σ H _ _ Q I r ⟨a, ws, rfl, h1, fun p hp => fin_new so hh hp (rep_newL so hp r2) (fresh_newL so hp (.of hp) r2)⟩
theorem cr_tupleQ : CallR X (.type "tuple") (rBi X.K fun S xs => callBi S .tuple xs) := by
  intro pins s σ H vs us Q I r h
  obtain ⟨hid, ρ, S, xs, so, rx, h⟩ := h
  obtain ⟨z, e, hh⟩ := h.of
  clear h
  match xs, rx, e with
  | [x], rx, e =>
    obtain ⟨v, ev, r1⟩ := rx.one
    subst ev
    simp only [callBi, tupleOf] at e
    split at e
    · cases e
      have r2 := r1
      simp only [Rep] at r2
      obtain ⟨a, ws, ea, h1, r2⟩ := r2
      subst ea
      exact call_tuple_of pins s σ H _ _ Q I r ⟨a, ws, rfl, .inr ⟨.inl h1.rd, fin_same so hh r1 trivial⟩⟩
    rename_i hnp
    split at e <;> cases e
    rename_i ys hl
    cases x with
    | ptup zs => exact absurd rfl (hnp zs)
    | tup zs =>
      simp only [asSeq, Option.some.injEq] at hl
      subst hl
      obtain ⟨a, ws, ea, h1, r2⟩ := r1.tup_
      subst ea
      exact call_tuple_of pins s σ H _ _ Q I r ⟨a, ws, rfl, .inr ⟨SqT.of h1, fin_same so hh (.of_tup h1 r2) trivial⟩⟩
    | _ =>
      obtain ⟨a, ws, ea, h1, r2⟩ := asList_rep so (by simpa only [asSeq] using hl) r1
      subst ea
      exact call_tuple_of pins s σ H _ _ Q I r ⟨a, ws, rfl, .inl ⟨.inl h1, fun p hp => fin_new so hh hp (rep_newT hp r2) trivial⟩⟩
/-- tuple(x) of a list: the new tuple has no dict -/
theorem call_ptup : CallR X (.type "tuple") (fun xs H Q => ∃ a ws, xs = [.ref a] ∧ SqL X.K H a ws ∧ ∀ l (o : Obj), H l = none → o.dict = none → Q (.ref l) (upd H l (.frz o (.tup ws)))) := by
  intro pins s σ H xs us Q I r h
  obtain ⟨a, ws, ex, hq, q⟩ := h
  subst ex
  obtain ⟨u, eu, ru⟩ := vals1 r
  subst eu
  cases ru
  obtain ⟨its, rv, pl, hz⟩ := I.list hq
  have hn := rv.length
  refine call_tuple_list pl.isList (fun h' hk' => ?_) (by rw [List.size_toArray, ← hn]; exact hz)
  have J : Inv X pins σ H { s with heap := h' } := I.kept (t' := s.toks) hk'
  have J2 : Inv X pins σ (upd H h'.objs.size (.frz { cls := .type "tuple", data := .seq its.toArray } (.tup ws))) { s with heap := h'.push { cls := .type "tuple", data := .seq its.toArray } } :=
    J.laid (t' := s.toks) (fun b ob e => Heap.get?_push_of_some _ e) (Nat.le_refl _) ⟨Heap.get?_push_size _ rfl, hz, its, rv, IsTup.new _ _⟩
  exact ⟨.ref h'.objs.size, _, J2, rfl, q h'.objs.size _ (J.hok.fresh (Nat.le_refl _)) rfl⟩
theorem cr_ptupleQ : CallR X (.type "tuple") (rBi X.K fun S xs => callBi S .ptuple xs) := by
  intro pins s σ H vs us Q I r h
  obtain ⟨hid, ρ, S, xs, so, rx, h⟩ := h
  obtain ⟨z, e, hh⟩ := h.of
  clear h
  match xs, rx, e with
  | [x], rx, e =>
    obtain ⟨v, ev, r1⟩ := rx.one
    subst ev
    simp only [callBi, ptupleOf] at e
    split at e
    · rename_i ys hl
      split at e <;> cases e
      obtain ⟨a, ws, ea, h1, r2⟩ := asList_rep so hl r1
      subst ea
      refine call_ptup pins s σ H _ _ Q I r ⟨a, ws, rfl, .inl h1, fun l o h0 hd => fin_new so hh h0 ?_ trivial⟩
      simp only [Rep]
      exact ⟨l, ws, rfl, ⟨o, upd_same, hd⟩, RepL.mono (Ext.new h0) ys ws r2⟩
    · cases e
theorem cr_min2Q (hc : X.calm = true) : CallR X (.builtin "min") (rBi X.K fun S xs => callBi S .min2 xs) := by
  intro pins s σ H vs us Q I r h
  obtain ⟨hid, ρ, S, xs, so, rx, h⟩ := h
  obtain ⟨z, e, hh⟩ := h.of
  clear h
  simp only [callBi] at e
  split at e <;> first
    | (rename_i hb; cases hb; done)
    | skip
  all_goals first
    | (cases e
       obtain ⟨v, w, ev, r1, r2⟩ := rx.two
       subst ev
       cases r1.int_; cases r2.int_
       exact call_min2 hc pins s σ H _ _ Q I r ⟨_, _, rfl, fin_same so hh .of_int trivial⟩)
    | (cases e; done)
theorem cr_max2Q (hc : X.calm = true) : CallR X (.builtin "max") (rBi X.K fun S xs => callBi S .max2 xs) := by
  intro pins s σ H vs us Q I r h
  obtain ⟨hid, ρ, S, xs, so, rx, h⟩ := h
  obtain ⟨z, e, hh⟩ := h.of
  clear h
  simp only [callBi] at e
  split at e <;> first
    | (rename_i hb; cases hb; done)
    | skip
  all_goals first
    | (cases e
       obtain ⟨v, w, ev, r1, r2⟩ := rx.two
       subst ev
       cases r1.int_; cases r2.int_
       exact call_max2 hc pins s σ H _ _ Q I r ⟨_, _, rfl, fin_same so hh .of_int trivial⟩)
    | (cases e; done)
theorem cr_absQ : CallR X (.builtin "abs") (rBi X.K fun S xs => callBi S .abs xs) := by
  intro pins s σ H vs us Q I r h
  obtain ⟨hid, ρ, S, xs, so, rx, h⟩ := h
  obtain ⟨z, e, hh⟩ := h.of
  clear h
  simp only [callBi] at e
  split at e <;> first
    | (rename_i hb; cases hb; done)
    | skip
  all_goals first
    | (cases e
       obtain ⟨v, ev, r1⟩ := rx.one
       subst ev
       cases r1.int_
       exact call_abs pins s σ H _ _ Q I r ⟨_, rfl, fin_same so hh .of_int trivial⟩)
    | (cases e; done)
theorem cr_intQ : CallR X (.type "int") (rBi X.K fun S xs => callBi S .int xs) := by
  intro pins s σ H vs us Q I r h
  obtain ⟨hid, ρ, S, xs, so, rx, h⟩ := h
  obtain ⟨z, e, hh⟩ := h.of
  clear h
  simp only [callBi] at e
  split at e <;> first
    | (rename_i hb; cases hb; done)
    | skip
  all_goals first
    | (cases e
       obtain ⟨v, ev, r1⟩ := rx.one
       subst ev
       cases r1.int_
       exact call_int1 pins s σ H _ _ Q I r (.inl ⟨_, rfl, fin_same so hh .of_int trivial⟩))
    | (cases e; done)
theorem figs_num : ∀ (f n : Nat) (acc : List Nat), n < 10 ^ f → 0 < f → figs f n acc = TL.numL n ++ acc
  | 0, _, _, _, h => by omega
  | 1, n, acc, h, _ => by
    have h1 : n < 10 := by simpa using h
    rw [figs, if_pos h1, TL.numL_lt h1]
    rfl
  | f + 2, n, acc, h, _ => by
    rw [figs]
    by_cases h1 : n < 10
    · rw [if_pos h1, TL.numL_lt h1]; rfl
    · have h2 : n / 10 < 10 ^ (f + 1) := by
        have e : 10 ^ (f + 2) = 10 ^ (f + 1) * 10 := Nat.pow_succ ..
        rw [e] at h
        exact Nat.div_lt_of_lt_mul (by rw [Nat.mul_comm]; exact h)
      rw [if_neg h1, figs_num (f + 1) (n / 10) _ h2 (by omega)]
      have h3 := TL.numL_step (n := n) (by omega)
      rw [h3, List.append_assoc]
      rfl
theorem cr_strQ : CallR X (.type "str") (rBi X.K fun S xs => callBi S .str xs) := by
  intro pins s σ H vs us Q I r h
  obtain ⟨hid, ρ, S, xs, so, rx, h⟩ := h
  obtain ⟨z, e, hh⟩ := h.of
  clear h
  match xs, rx, e with
  | [x], rx, e =>
    obtain ⟨v, ev, r1⟩ := rx.one
    subst ev
    simp only [callBi, strVal] at e
    split at e
    · rename_i n
      split at e <;> cases e
      rename_i hn
      cases r1.int_
      refine call_str_int pins s σ H _ _ Q I r ⟨n, rfl, ?_, ?_⟩
      · by_cases h0 : n.natAbs = 0
        · rw [h0]; decide
        · exact Nat.lt_trans ((Nat.log2_lt (k := 34) h0).mpr (by omega)) (by decide)
      · have e1 : Str.ofString (toString n) = strOf (figs 10 n.toNat []) := by
          rw [figs_num 10 n.toNat [] (by omega) (by decide), List.append_nil]
          have := SX.num_S n.toNat
          rw [show ((n.toNat : Nat) : Int) = n by omega] at this
          exact this
        have e2 : (V.str (toString n : String)) = V.str (strOf (figs 10 n.toNat [])) := by rw [← e1]
        rw [e2]
        exact fin_same so hh .of_str trivial
    · cases e
      cases r1.str_
      exact SkE.call_str_str pins s σ H _ _ Q I r ⟨_, rfl, fin_same so hh .of_str trivial⟩
    · cases e
end
end QE

set_option Elab.async false
set_option linter.all false
set_option maxRecDepth 10000
set_option maxHeartbeats 1000000
/-! isinstance, methods, cells, by values. -/
namespace QE
open PySem PySem.Spec PyProof.Rows L2
def tyStr : Ty → String
  | .int => "int"
  | .bool => "bool"
  | .str => "str"
  | .tuple => "tuple"
  | .list => "list"
theorem kit_tys : ∀ u t : Ty, kitB (tyStr u) (tyStr t) = some (decide (u = t) || (decide (u = .bool) && decide (t = .int))) := by
  intro u t
  cases u <;> cases t <;> decide +kernel
theorem kit_non : ∀ t : Ty, kitB "NoneType" (tyStr t) = some false := by
  intro t
  cases t <;> decide +kernel
section
variable {K : PySem.W.Frag} {hid ρ : List Addr} {H : Hp} {S : Sto}
theorem ty_rd {a : Addr} {vs : List V} (h : Rd H a (.lst vs)) : TyX K H (.ref a) (.type "list") := by
  rcases h with h | ⟨o, h⟩
  · exact .base (.lst h)
  · exact .base (.frz h)
theorem ty_rep (so : SOk K hid ρ H S) {x : Val} {v : V} {u : Ty} (e : tyName S x = some u) (r : Rep K hid ρ H x v) : TyX K H v (.type (tyStr u)) := by
  cases x <;> simp only [tyName] at e <;> try (cases e; done)
  · cases e; cases r.bl_; exact .base (.bl _)
  · cases e; cases r.int_; exact .base (.int _)
  · cases e; cases r.str_; exact .base (.str _)
  · cases e; obtain ⟨a, vs, ea, h1, _⟩ := r.tup_; subst ea; exact .base (.tup h1)
  · cases e
    simp only [Rep] at r
    obtain ⟨a, vs, ea, h1, _⟩ := r
    subst ea
    exact ty_rd h1.rd
  · split at e <;> cases e
    rename_i xs q
    simp only [Rep] at r
    obtain ⟨a, h1, h2⟩ := r
    obtain ⟨b, h3, vs, h4, _⟩ := so.ob _ _ q
    rw [h1] at h3; cases h3
    subst h2
    exact .base (.lst h4)
  · cases e
    simp only [Rep] at r
    obtain ⟨a, vs, ea, ⟨o, h1, _⟩, _⟩ := r
    subst ea
    exact .fTuple h1
end
section
variable {X : Cx}
def rIs (K : PySem.W.Frag) (t : Ty) : List V → Hp → VK → Prop := fun vs H Q => ∃ hid ρ S x v b, vs = [v, .ty (tyStr t)] ∧ SOk K hid ρ H S ∧ Rep K hid ρ H x v ∧ isTy S t x = some b ∧ Q (.bl b) H
theorem cr_isQ {t : Ty} : CallR X (.builtin "isinstance") (rIs X.K t) := by
  intro pins s σ H vs us Q I r h
  obtain ⟨hid, ρ, S, x, v, b, ev, so, rx, e, q⟩ := h
  unfold isTy at e
  split at e
  · rename_i u hu
    cases e
    exact call_isi pins s σ H _ _ Q I r ⟨v, _, _, _, _, ev, .ty _, ty_rep so hu rx, kit_ty (kit_tys u t), q⟩
  · split at e <;> cases e
    rename_i hn
    cases x <;> simp only [isNon] at hn <;> try (cases hn; done)
    cases rx.non_
    exact call_isi pins s σ H _ _ Q I r ⟨_, _, _, _, _, ev, .ty _, .base .non, kit_ty (kit_non t), q⟩

/-! ### methods that change nothing -/
def rMe (K : PySem.W.Frag) (m : Me) : V → List V → Hp → VK → Prop := fun v vs H Q => ∃ hid ρ S x xs, SOk K hid ρ H S ∧ Rep K hid ρ H x v ∧ RepL K hid ρ H xs vs ∧ Out K hid ρ H (R.of (callMe S m x xs) S) (Gv K hid H Q)
theorem cnt_eqU {y : V} : ∀ {vs : List V} {us : List Value}, Vals vs us → vs.all flatV = true → us.countP (eqU y) = vs.countP fun z => eqV z y
  | _, _, .nil, _ => rfl
  | v :: vs, u :: us, .cons r q, f => by
    simp only [List.all_cons, Bool.and_eq_true] at f
    rw [List.countP_cons, List.countP_cons, cnt_eqU q f.2, eqU_of r f.1]
/-- xs.count(y) of flat values -/
theorem mt_cntF : MtR X "list.count" (fun x xs H Q => ∃ a vs y, x = .ref a ∧ xs = [y] ∧ SqL X.K H a vs ∧ flatV y = true ∧ vs.all flatV = true ∧ Q (.int ((vs.countP fun z => eqV z y : Nat) : Int)) H) := by
  intro pins s σ H x xs v us Q I rx rs h
  obtain ⟨a, vs, y, ex, exs, hq, fy, fs, q⟩ := h
  subst ex exs
  cases rx
  obtain ⟨u, eu, ru⟩ := vals1 rs
  subst eu
  obtain ⟨its, rv, ⟨⟨c, dd, dt, sl⟩, n, ho, hc, _, hd⟩, _⟩ := I.list hq
  simp only at hc hd
  subst hc hd
  refine call_meets PySem.F.slot_list_count ⟨_, ho, rfl⟩ PySem.F.entry_list_count (PySem.F.args_list_count_2 _ _) (SeqAt.list_countAt a its.toArray n dd sl u (eqU y))
    ⟨ho, fun w hw => mem_eqAt ru fy rv fs w (by simpa using hw), ⟨.int ((vs.countP fun z => eqV z y : Nat) : Int), H, I.tok _, ⟨s.toks, ?_⟩, q⟩⟩
  rw [← cnt_eqU rv fs]
theorem flat_cnt {K : PySem.W.Frag} {hid ρ : List Addr} {H : Hp} {x : Val} {v : V} (hx : x.flat = true) (r : Rep K hid ρ H x v) : ∀ {ys : List Val} {vs : List V}, ys.all Val.flat = true → RepL K hid ρ H ys vs → (vs.countP fun z => eqV z v) = ys.countP fun y => y.eqv x
  | [], vs, _, q => by simp only [RepL] at q; subst q; rfl
  | y :: ys, vs, h, q => by
    simp only [RepL] at q
    obtain ⟨w, l, e, r1, r2⟩ := q
    simp only [List.all_cons, Bool.and_eq_true] at h
    rw [e, List.countP_cons, List.countP_cons, flat_cnt hx r h.2 r2, flat_eqV h.1 hx r1.2 r]
theorem mt_countQ : MtR X "list.count" (rMe X.K .count) := by
  intro pins s σ H v vs vv us Q I rv rvs h
  obtain ⟨hid, ρ, S, x, xs, so, rx, rxs, h⟩ := h
  obtain ⟨z, e, hh⟩ := h.of
  clear h
  match xs, rxs, e with
  | [y], rxs, e =>
    simp only [callMe] at e
    split at e
    · rename_i ys hl
      unfold countV at e
      split at e <;> cases e
      rename_i hf
      simp only [Bool.and_eq_true] at hf
      obtain ⟨a, ws, ea, h1, r1⟩ := asList_rep so hl rx
      obtain ⟨w, ew, r2⟩ := rxs.one
      subst ea ew
      refine mt_cntF pins s σ H _ _ _ _ Q I rv rvs ⟨a, ws, w, rfl, rfl, .inl h1, flat_V hf.1 r2, flat_Vs hf.2 r1, ?_⟩
      rw [flat_cnt hf.1 r2 hf.2 r1]
      exact fin_same so hh .of_int trivial
    · cases e
theorem pdL_get {x : Val} : ∀ {xs : List Val} {i : Nat}, xs[i]? = some x → (pdL xs)[i]? = some (pd x)
  | [], _, h => by simp at h
  | y :: ys, 0, h => by simp at h; subst h; simp [pdL]
  | y :: ys, i + 1, h => by simpa [pdL] using pdL_get (i := i) (by simpa using h)
theorem pdL_of {z : PyData} : ∀ {xs : List Val} {i : Nat}, (pdL xs)[i]? = some z → ∃ x, xs[i]? = some x ∧ z = pd x
  | [], _, h => by simp [pdL] at h
  | y :: ys, 0, h => by simp [pdL] at h; exact ⟨y, rfl, h.symm⟩
  | y :: ys, i + 1, h => by
    obtain ⟨x, h1, h2⟩ := pdL_of (xs := ys) (i := i) (by simpa [pdL] using h)
    exact ⟨x, by simpa using h1, h2⟩
theorem indexOf_ok {x : Val} : ∀ {xs : List Val} {n j : Nat}, indexOf x xs n = some j → n ≤ j ∧ ∃ y, xs[j - n]? = some y ∧ y.eqv x = true ∧ ∀ m z, m < j - n → xs[m]? = some z → z.eqv x = false
  | [], n, j, h => by simp [indexOf] at h
  | y :: ys, n, j, h => by
    unfold indexOf at h
    split at h
    · cases h
      rename_i hy
      refine ⟨Nat.le_refl _, y, by simp, hy, fun m z hm => by omega⟩
    · rename_i hy
      obtain ⟨h1, z, h2, h3, h4⟩ := indexOf_ok h
      refine ⟨by omega, z, ?_, h3, fun m w hm hw => ?_⟩
      · rw [show j - n = (j - (n + 1)) + 1 by omega]; simpa using h2
      · cases m with
        | zero => simp at hw; subst hw; simpa using hy
        | succ m => exact h4 m w (by omega) (by simpa using hw)
theorem chkL_get {x : Val} {d : Nat} : ∀ {xs : List Val} {i : Nat}, Val.chkL d xs = true → xs[i]? = some x → x.chk d = true
  | [], _, _, h => by simp at h
  | y :: ys, 0, h, e => by simp at e; subst e; simp only [Val.chkL, Bool.and_eq_true] at h; exact h.1
  | y :: ys, i + 1, h, e => by
    simp only [Val.chkL, Bool.and_eq_true] at h
    exact chkL_get (i := i) h.2 (by simpa using e)
/-- t.index(y) of flat values -/
theorem mt_tidxF : MtR X "tuple.index" (fun x xs H Q => ∃ a vs y j w, x = .ref a ∧ xs = [y] ∧ SqT X.K H a vs ∧ flatV y = true ∧ vs.all flatV = true ∧ vs[j]? = some w ∧ eqV w y = true ∧ (∀ m z, m < j → vs[m]? = some z → eqV z y = false) ∧ Q (.int (j : Nat)) H) := by
  intro pins s σ H x xs v us Q I rx rs h
  obtain ⟨a, vs, y, j, w, ex, exs, hq, fy, fs, hj, hw, hno, q⟩ := h
  subst ex exs
  cases rx
  obtain ⟨u, eu, ru⟩ := vals1 rs
  subst eu
  obtain ⟨its, rv, ⟨⟨c, dd, dt, sl⟩, ho, hc, n, hd⟩, _⟩ := I.tuple hq
  simp only at hc hd
  subst hc hd
  have at' : ∀ (m : Nat) (hm : m < its.toArray.size), ∃ z, vs[m]? = some z ∧ eqU y its.toArray[m] = eqV z y := fun m hm => by
    have hm1 : m < its.length := by simpa using hm
    have hm2 : m < vs.length := by rw [rv.length]; exact hm1
    obtain ⟨u', hu', ru'⟩ := rv.get (i := m) (x := vs[m]) (List.getElem?_eq_getElem hm2)
    refine ⟨vs[m], List.getElem?_eq_getElem hm2, ?_⟩
    have e1 : its.toArray[m] = u' := by
      have := (List.getElem?_eq_some_iff.mp hu').2
      simpa using this
    rw [e1]
    exact eqU_of ru' (List.all_eq_true.mp fs _ (List.getElem_mem hm2))
  have hj1 : j < its.toArray.size := by
    have := (List.getElem?_eq_some_iff.mp hj).1
    rw [rv.length] at this
    simpa using this
  refine call_meets PySem.F.slot_tuple_index ⟨_, ho, rfl⟩ PySem.F.entry_tuple_index (PySem.F.args_tuple_index_2 _ _) (TI.tuple_indexAt a its.toArray n dd sl u (eqU y) j hj1 ?_ ?_)
    ⟨ho, fun z hz => mem_eqAt ru fy rv fs z (by simpa using hz), ⟨.int (j : Nat), H, I.tok _, ⟨_, rfl⟩, q⟩⟩
  · obtain ⟨z, h1, h2⟩ := at' j hj1
    rw [hj] at h1
    cases h1
    rw [h2, hw]
  · intro m hm hmj
    obtain ⟨z, h1, h2⟩ := at' m hm
    rw [h2]
    exact hno m z hmj h1
theorem mt_tindexQ : MtR X "tuple.index" (rMe X.K .tindex) := by
  intro pins s σ H v vs vv us Q I rv rvs h
  obtain ⟨hid, ρ, S, x, xs, so, rx, rxs, h⟩ := h
  obtain ⟨z, e, hh⟩ := h.of
  clear h
  match xs, rxs, e with
  | [y], rxs, e =>
    simp only [callMe] at e
    split at e
    · rename_i ys hl
      unfold flatIdx at e
      split at e <;> try (cases e; done)
      rename_i hf
      simp only [Bool.and_eq_true] at hf
      split at e <;> cases e
      rename_i j hj
      obtain ⟨_, w', h2, h3, h4⟩ := indexOf_ok hj
      rw [Nat.sub_zero] at h2 h4
      cases x <;> simp only [asPt] at hl <;> try (cases hl; done)
      cases hl
      have rx0 := rx
      simp only [Rep] at rx0
      obtain ⟨a, ws, ea, h1, r1⟩ := rx0
      obtain ⟨w, ew, r2⟩ := rxs.one
      subst ea ew
      obtain ⟨v', hv', _, rv'⟩ := r1.get h2
      have fl : ∀ (m : Nat) (q : Val), ys[m]? = some q → q.flat = true := fun m q hq => List.all_eq_true.mp hf.2 q (List.mem_of_getElem? hq)
      refine mt_tidxF pins s σ H _ _ _ _ Q I rv rvs ⟨a, ws, w, j, v', rfl, rfl, .inl h1.rd, flat_V hf.1 r2, flat_Vs hf.2 r1, hv', ?_, fun m z' hm hz => ?_, fin_same so hh .of_int trivial⟩
      · rw [flat_eqV (fl _ _ h2) hf.1 rv' r2]; exact h3
      · have hm2 : m < ys.length := by
          have := (List.getElem?_eq_some_iff.mp hz).1
          rw [r1.length] at this
          exact this
        obtain ⟨v2, hv2, _, rv2⟩ := r1.get (i := m) (List.getElem?_eq_getElem hm2)
        rw [hz] at hv2
        cases hv2
        rw [flat_eqV (fl _ _ (List.getElem?_eq_getElem hm2)) hf.1 rv2 r2]
        exact h4 m _ hm (List.getElem?_eq_getElem hm2)
    · cases e
theorem mt_indexQ (hu : X.A.units + 65 < cLine) : MtR X "list.index" (rMe X.K .index) := by
  intro pins s σ H v vs vv us Q I rv rvs h
  obtain ⟨hid, ρ, S, x, xs, so, rx, rxs, h⟩ := h
  obtain ⟨z, e, hh⟩ := h.of
  clear h
  match xs, rxs, e with
  | [y], rxs, e =>
    simp only [callMe] at e
    split at e
    · rename_i ys hl
      unfold idxOf at e
      split at e
      · rename_i hc
        simp only [Bool.and_eq_true] at hc
        split at e <;> cases e
        rename_i j hj
        obtain ⟨_, w, h2, h3, h4⟩ := indexOf_ok hj
        obtain ⟨a, ws, ea, h1, r1⟩ := asList_rep so hl rx
        obtain ⟨u, ew, r2⟩ := rxs.one
        subst ea ew
        rw [Nat.sub_zero] at h2 h4
        refine mt_indexD hu pins s σ H _ _ _ _ Q I rv rvs ⟨a, u, pd y, pdL ys, j, pd w, rfl, rfl, dp_list so hl rx hc.2, dp_of 64 y u hc.1 r2, (pdL_shaped hc.2).1, pd_shaped hc.1, pdL_get h2, ?_, fun m z' hm hz => ?_, fin_same so hh .of_int trivial⟩
        · rw [← pd_eqv w y 63 64 (chkL_get hc.2 h2) hc.1]; exact h3
        · obtain ⟨x', h5, rfl⟩ := pdL_of hz
          rw [← pd_eqv x' y 63 64 (chkL_get hc.2 h5) hc.1]
          exact h4 m x' hm h5
      · cases e
    · cases e
end

/-! ### cells -/
/-- what may be rewritten in a cell -/
def CellO : HO → Prop
  | .lst _ => True
  | .dK _ => True
  | .dT _ => True
  | _ => False
theorem Ext.write {ρ : List Addr} {H : Hp} {a : Addr} {u o : HO} (ha : a ∈ ρ) (hu : H a = some u) (hc : CellO u) (n : NT o := by intro _ z; cases z) : Ext ρ H ρ (upd H a o) := by
  refine ⟨⟨[], by simp, by simp⟩, fun b w e hb _ => ?_, fun b w e nw => ?_, fun b xs e => ?_, fun b w x e => ?_⟩
  · rw [upd_ne (fun z => hb (by rw [z]; exact ha))]; exact e
  · by_cases z : b = a
    · subst z; exact ⟨o, upd_same, n⟩
    · exact ⟨w, by rw [upd_ne z]; exact e, nw⟩
  · rw [upd_ne (fun z => by subst z; rw [hu] at e; cases e; exact hc)]; exact e
  · rw [upd_ne (fun z => by subst z; rw [hu] at e; cases e; exact hc)]; exact e
section
variable {K : PySem.W.Frag} {hid ρ : List Addr} {H : Hp} {S : Sto}
theorem SOk.write (s : SOk K hid ρ H S) {n : Nat} {a : Addr} (ha : ρ[n]? = some a) {u o : HO} (hu : H a = some u) (hc : CellO u) {ob : Ob} (new : ObRep K hid ρ (upd H a o) a ob) (no : NT o := by intro _ z; cases z) : SOk K hid ρ (upd H a o) (S.set n ob) := by
  have hm : a ∈ ρ := List.mem_of_getElem? ha
  have ex : Ext ρ H ρ (upd H a o) := Ext.write hm hu hc no
  refine ⟨by rw [List.length_set]; exact s.len, s.nd, s.apart, fun b hb => ?_, fun m w q => ?_⟩
  · obtain ⟨x, hx, n⟩ := s.hidd b hb
    exact ex.there0 b x hx n
  · by_cases hmn : n = m
    · subst hmn
      have hl : n < S.length := by
        have := (List.getElem?_eq_some_iff.mp ha).1
        rw [s.len] at this; exact this
      rw [List.getElem?_set_self hl] at q
      cases q
      exact ⟨a, ha, new⟩
    · rw [List.getElem?_set_ne hmn] at q
      obtain ⟨b, h1, h2⟩ := s.ob m w q
      refine ⟨b, h1, h2.mono ex (upd_ne ?_)⟩
      intro z
      subst z
      obtain ⟨l1, e1⟩ := List.getElem?_eq_some_iff.mp ha
      obtain ⟨l2, e2⟩ := List.getElem?_eq_some_iff.mp h1
      exact hmn ((List.getElem_inj s.nd).mp (e1.trans e2.symm))
/-- a cell's own object -/
theorem SOk.cell (s : SOk K hid ρ H S) {n : Nat} {v : V} {ob : Ob} (r : Rep K hid ρ H (.ref n) v) (q : S[n]? = some ob) : ∃ a, v = .ref a ∧ ρ[n]? = some a ∧ ObRep K hid ρ H a ob := by
  simp only [Rep] at r
  obtain ⟨a, h1, h2⟩ := r
  obtain ⟨b, h3, h4⟩ := s.ob n _ q
  rw [h1] at h3; cases h3
  exact ⟨a, h2, h1, h4⟩
end
section
variable {X : Cx}
def rApp (K : PySem.W.Frag) (b : Nat) : V → List V → Hp → VK → Prop := fun v vs H Q => ∃ hid ρ S x y w, vs = [w] ∧ SOk K hid ρ H S ∧ Rep K hid ρ H x v ∧ Rep K hid ρ H y w ∧ Out K hid ρ H (QE.append b S x y) (Gv K hid H Q)
theorem mt_appQ {b : Nat} : MtR X "list.append" (rApp X.K b) := by
  intro pins s σ H v vs vv us Q I rv rvs h
  obtain ⟨hid, ρ, S, x, y, w, ew, so, rx, ry, h⟩ := h
  subst ew
  unfold QE.append at h
  split at h
  · rename_i n
    split at h
    · rename_i xs hq
      split at h
      · rename_i hc
        simp only [Bool.and_eq_true, decide_eq_true_eq] at hc
        obtain ⟨a, ea, ha, ws, h4, r4⟩ := so.cell rx hq
        subst ea
        refine mt_append pins s σ H _ _ _ _ Q I rv rvs ⟨a, ws, w, rfl, rfl, h4, by rw [r4.length, ← lim_eq]; exact hc.1, ?_⟩
        have ex : Ext ρ H ρ (upd H a (.lst (ws ++ [w]))) := Ext.write (List.mem_of_getElem? ha) h4 trivial
        exact h ρ _ ex (so.write ha h4 trivial ⟨_, upd_same, (RepL.mono ex _ _ r4).app (RepL.cons ⟨st_settle y, (Rep.mono ex _ _ ry).settle⟩ .nil)⟩) _ .of_non trivial
      · exact h.elim
    · exact h.elim
  · exact h.elim
theorem iop_extR : OpR X (inplaceOp .Add) (fun x y H Q => ∃ l b xs zs, x = .ref l ∧ y = .ref b ∧ H l = some (.lst xs) ∧ Rd H b (.lst zs) ∧ xs.length + zs.length ≤ sizeLine ∧ Q (.ref l) (upd H l (.lst (xs ++ zs)))) := by
  intro pins s σ H x y v u Q I rx ry h
  obtain ⟨l, b, xs, zs, ex, ey, hH, hB, hz, q⟩ := h
  subst ex ey
  cases rx
  cases ry
  obtain ⟨z, its, n, r, hl, e⟩ := I.lstM hH
  obtain ⟨z2, its2, n2, r2, e2⟩ := hB.ok I.hok
  have hl2 := r2.length
  have hsz : its.toArray.size + its2.toArray.size ≤ sizeLine := by
    simp only [List.size_toArray]
    omega
  have hno : ¬ (!its.toArray.isEmpty && Builtin.List.listTooLong (its.toArray.size + its2.toArray.size)) = true := fun z => by
    rw [notLongL hsz, Bool.and_false] at z
    exact Bool.noConfusion z
  refine iadd_road ⟨_, e, rfl⟩ ⟨_, e2, rfl⟩ (call_meets PySem.F.slot_list_iadd ⟨_, e, rfl⟩ PySem.F.entry_list_iadd (PySem.F.args_list_iadd_2 _ _)
    (AutoSeq1.list___iadd___list_list_0 l its.toArray n b its2.toArray n2 hno (by simp only [List.size_toArray]; omega) (by omega)) ⟨e, e2, ?_⟩)
  exact ⟨.ref l, _, I.lset (its' := its ++ its2) (t' := s.toks) hH e (by simp) (r.append r2) (by rw [List.length_append]; omega), rfl, q⟩
def rExt (K : PySem.W.Frag) (b : Nat) : R2 := fun v w H Q => ∃ hid ρ S x y, SOk K hid ρ H S ∧ Rep K hid ρ H x v ∧ Rep K hid ρ H y w ∧ Out K hid ρ H (QE.extend b S x y) fun z _ ρ' H' => ∀ u, Rep K hid ρ' H' z u → Q u H'
theorem iop_Q {b : Nat} : OpR X (inplaceOp .Add) (rExt X.K b) := by
  intro pins s σ H v w vv ww Q I rv rw' h
  obtain ⟨hid, ρ, S, x, y, so, rx, ry, h⟩ := h
  unfold QE.extend at h
  split at h
  · rename_i n
    split at h
    · rename_i xs ys hq hl
      split at h
      · rename_i hc
        simp only [Bool.and_eq_true, decide_eq_true_eq] at hc
        obtain ⟨a, ea, ha, ws, h4, r4⟩ := so.cell rx hq
        obtain ⟨c, zs, ec, h5, r5⟩ := asList_rep so hl ry
        subst ea ec
        refine iop_extR pins s σ H _ _ _ _ Q I rv rw' ⟨a, c, ws, zs, rfl, rfl, h4, h5, by rw [r4.length, r5.length, ← lim_eq]; exact hc.1, ?_⟩
        have ex : Ext ρ H ρ (upd H a (.lst (ws ++ zs))) := Ext.write (List.mem_of_getElem? ha) h4 trivial
        exact h ρ _ ex (so.write ha h4 trivial ⟨_, upd_same, (RepL.mono ex _ _ r4).app (RepL.mono ex _ _ r5)⟩) _ (Rep.mono ex _ _ rx)
      · exact h.elim
    · exact h.elim
  · exact h.elim
/-- o[i] = v -/
def rSet (K : PySem.W.Frag) (b : Nat) : TSet := fun o i v H Q => ∃ hid ρ S x y z, SOk K hid ρ H S ∧ Rep K hid ρ H x o ∧ Rep K hid ρ H y i ∧ Rep K hid ρ H z v ∧ Out K hid ρ H (QE.setIx b S x y z) fun _ _ _ H' => Q H'
section
variable {K : PySem.W.Frag} {hid ρ : List Addr} {H : Hp} {k x : Val} {v : V}
theorem RepT.has (hk : k.isKey true = true) : ∀ {kvs : List (Val × Val)} {ws : List (List L2.Key × V)}, RepT K hid ρ H kvs ws → (ws.any fun kv => decide (kv.1 = keysOf k)) = dHas k kvs
  | [], ws, q => by
    simp only [RepT] at q
    subst q
    rfl
  | (j, u) :: kvs, ws, q => by
    simp only [RepT] at q
    obtain ⟨w, r, e, hj, r1, r2⟩ := q
    subst e
    simp only [dHas, List.any_cons]
    rw [RepT.has hk r2, keyEq_t hj hk]
theorem RepT.map (hk : k.isKey true = true) (r : x.st = true ∧ Rep K hid ρ H x v) : ∀ {kvs : List (Val × Val)} {ws : List (List L2.Key × V)}, RepT K hid ρ H kvs ws →
    RepT K hid ρ H (dMap k x kvs) (ws.map fun kv => if kv.1 = keysOf k then (kv.1, v) else kv)
  | [], ws, q => by
    simp only [RepT] at q
    subst q
    simp only [dMap, RepT, List.map_nil]
  | (j, u) :: kvs, ws, q => by
    simp only [RepT] at q
    obtain ⟨w, l, e, hj, r1, r2⟩ := q
    subst e
    have ih := RepT.map hk r r2
    simp only [dMap, List.map_cons, keyEq_t hj hk, decide_eq_true_eq]
    by_cases z : keysOf j = keysOf k
    · rw [if_pos z, if_pos z]
      simp only [RepT]
      exact ⟨v, _, rfl, hj, r, ih⟩
    · rw [if_neg z, if_neg z]
      simp only [RepT]
      exact ⟨w, _, rfl, hj, r1, ih⟩
theorem RepT.snoc (hk : k.isKey true = true) (r : x.st = true ∧ Rep K hid ρ H x v) : ∀ {kvs : List (Val × Val)} {ws : List (List L2.Key × V)}, RepT K hid ρ H kvs ws →
    RepT K hid ρ H (kvs ++ [(k, x)]) (ws ++ [(keysOf k, v)])
  | [], ws, q => by
    simp only [RepT] at q
    subst q
    simp only [List.nil_append, RepT]
    exact ⟨v, [], rfl, hk, r, by simp only [RepT]⟩
  | (j, u) :: kvs, ws, q => by
    simp only [RepT] at q
    obtain ⟨w, l, e, hj, r1, r2⟩ := q
    subst e
    simp only [List.cons_append, RepT]
    exact ⟨w, _, rfl, hj, r1, RepT.snoc hk r r2⟩
theorem RepT.put (hk : k.isKey true = true) (r : x.st = true ∧ Rep K hid ρ H x v) {kvs : List (Val × Val)} {ws : List (List L2.Key × V)} (q : RepT K hid ρ H kvs ws) : RepT K hid ρ H (dPut k x kvs) (putK ws (keysOf k) v) := by
  unfold dPut putK
  rw [RepT.has hk q]
  split
  · exact q.map hk r
  · exact q.snoc hk r
theorem RepT.length : ∀ {kvs : List (Val × Val)} {ws : List (List L2.Key × V)}, RepT K hid ρ H kvs ws → ws.length = kvs.length
  | [], ws, q => by simp only [RepT] at q; subst q; rfl
  | (j, u) :: kvs, ws, q => by
    simp only [RepT] at q
    obtain ⟨w, l, e, hj, r1, r2⟩ := q
    subst e
    rw [List.length_cons, List.length_cons, RepT.length r2]
theorem RepK.has (hk : k.flatKey = true) : ∀ {kvs : List (Val × Val)} {ws : List (L2.Key × V)}, RepK K hid ρ H kvs ws → (ws.any fun kv => decide (kv.1 = keyOf k)) = dHas k kvs
  | [], ws, q => by
    simp only [RepK] at q
    subst q
    rfl
  | (j, u) :: kvs, ws, q => by
    simp only [RepK] at q
    obtain ⟨w, r, e, hj, r1, r2⟩ := q
    subst e
    simp only [dHas, List.any_cons]
    rw [RepK.has hk r2, keyEq_f hj hk]
theorem RepK.map (hk : k.flatKey = true) (r : x.st = true ∧ Rep K hid ρ H x v) : ∀ {kvs : List (Val × Val)} {ws : List (L2.Key × V)}, RepK K hid ρ H kvs ws →
    RepK K hid ρ H (dMap k x kvs) (ws.map fun kv => if kv.1 = keyOf k then (kv.1, v) else kv)
  | [], ws, q => by
    simp only [RepK] at q
    subst q
    simp only [dMap, RepK, List.map_nil]
  | (j, u) :: kvs, ws, q => by
    simp only [RepK] at q
    obtain ⟨w, l, e, hj, r1, r2⟩ := q
    subst e
    have ih := RepK.map hk r r2
    simp only [dMap, List.map_cons, keyEq_f hj hk, decide_eq_true_eq]
    by_cases z : keyOf j = keyOf k
    · rw [if_pos z, if_pos z]
      simp only [RepK]
      exact ⟨v, _, rfl, hj, r, ih⟩
    · rw [if_neg z, if_neg z]
      simp only [RepK]
      exact ⟨w, _, rfl, hj, r1, ih⟩
theorem RepK.snoc (hk : k.flatKey = true) (r : x.st = true ∧ Rep K hid ρ H x v) : ∀ {kvs : List (Val × Val)} {ws : List (L2.Key × V)}, RepK K hid ρ H kvs ws →
    RepK K hid ρ H (kvs ++ [(k, x)]) (ws ++ [(keyOf k, v)])
  | [], ws, q => by
    simp only [RepK] at q
    subst q
    simp only [List.nil_append, RepK]
    exact ⟨v, [], rfl, hk, r, by simp only [RepK]⟩
  | (j, u) :: kvs, ws, q => by
    simp only [RepK] at q
    obtain ⟨w, l, e, hj, r1, r2⟩ := q
    subst e
    simp only [List.cons_append, RepK]
    exact ⟨w, _, rfl, hj, r1, RepK.snoc hk r r2⟩
theorem RepK.put (hk : k.flatKey = true) (r : x.st = true ∧ Rep K hid ρ H x v) {kvs : List (Val × Val)} {ws : List (L2.Key × V)} (q : RepK K hid ρ H kvs ws) : RepK K hid ρ H (dPut k x kvs) (putK ws (keyOf k) v) := by
  unfold dPut putK
  rw [RepK.has hk q]
  split
  · exact q.map hk r
  · exact q.snoc hk r
theorem RepK.length : ∀ {kvs : List (Val × Val)} {ws : List (L2.Key × V)}, RepK K hid ρ H kvs ws → ws.length = kvs.length
  | [], ws, q => by simp only [RepK] at q; subst q; rfl
  | (j, u) :: kvs, ws, q => by
    simp only [RepK] at q
    obtain ⟨w, l, e, hj, r1, r2⟩ := q
    subst e
    rw [List.length_cons, List.length_cons, RepK.length r2]
end
theorem set_Q {b : Nat} (hu : X.A.units + 1 < cLine) : PSet X (rSet X.K b) := by
  intro pins s σ H o i v ov iv u Q I ro ri rv h
  obtain ⟨hid, ρ, S, x, y, z, so, rx, ry, rz, h⟩ := h
  unfold QE.setIx at h
  split at h
  · rename_i n
    split at h
    · rename_i xs hq
      split at h
      · rename_i k
        split at h
        · rename_i j hj
          split at h
          · obtain ⟨a, ea, ha, ws, h4, r4⟩ := so.cell rx hq
            subst ea
            cases ry.int_
            refine set_list pins s σ H _ _ _ _ _ _ Q I ro ri rv ⟨a, ws, k, j, rfl, rfl, h4, by rw [r4.length]; exact hj, ?_⟩
            have ex : Ext ρ H ρ (upd H a (.lst (ws.set j v))) := Ext.write (List.mem_of_getElem? ha) h4 trivial
            exact h ρ _ ex (so.write ha h4 trivial ⟨_, upd_same, RepL.set ⟨st_settle z, (Rep.mono ex _ _ rz).settle⟩ j (RepL.mono ex _ _ r4)⟩)
          · exact h.elim
        · exact h.elim
      · exact h.elim
    · rename_i t kvs hq
      split at h
      · rename_i hc
        simp only [Bool.and_eq_true, decide_eq_true_eq] at hc
        obtain ⟨⟨hk, hl⟩, _⟩ := hc
        obtain ⟨a, ea, ha, h4⟩ := so.cell rx hq
        subst ea
        have hm := List.mem_of_getElem? ha
        cases ro
        cases t with
        | true =>
          obtain ⟨ws, h4, r4⟩ := h4
          obtain ⟨ks, e2, h3⟩ := isKey_true hk
          subst e2
          obtain ⟨c, us, e3, h5, r5⟩ := ry.tup_
          have h6 := flatKeys_rep h3 r5
          subst e3 h6
          have g : DPut H a (.ref c) v (upd H a (.dT (putK ws (ks.map keyOf) v))) := DPut.t h4 h5 (by rw [r4.length, ← lim_eq]; exact hl)
          refine d_setItem hu I g ri rv fun s' I' => ⟨_, I', ?_⟩
          have ex : Ext ρ H ρ (upd H a (.dT (putK ws (ks.map keyOf) v))) := Ext.write hm h4 trivial
          exact h ρ _ ex (so.write ha h4 trivial ⟨_, upd_same, RepT.put hk ⟨st_settle z, (Rep.mono ex _ _ rz).settle⟩ (RepT.mono ex _ _ r4)⟩)
        | false =>
          obtain ⟨ws, h4, r4⟩ := h4
          have h3 : y.flatKey = true := by simpa [Val.isKey] using hk
          have h6 := flatKey_rep h3 ry
          subst h6
          have g : DPut H a (kV (keyOf y)) v (upd H a (.dK (putK ws (keyOf y) v))) := DPut.k h4 (by rw [r4.length, ← lim_eq]; exact hl)
          refine d_setItem hu I g ri rv fun s' I' => ⟨_, I', ?_⟩
          have ex : Ext ρ H ρ (upd H a (.dK (putK ws (keyOf y) v))) := Ext.write hm h4 trivial
          exact h ρ _ ex (so.write ha h4 trivial ⟨_, upd_same, RepK.put h3 ⟨st_settle z, (Rep.mono ex _ _ rz).settle⟩ (RepK.mono ex _ _ r4)⟩)
      · exact h.elim
    · exact h.elim
  · exact h.elim
end
end QE

set_option Elab.async false
set_option linter.all false
set_option maxRecDepth 10000
set_option maxHeartbeats 1000000
/-! Expressions: each construct's rule, by the rules of its parts. -/
namespace QE
open PySem PySem.Spec PyProof.Rows L2
section
variable {X : Cx}
theorem PE.imp {e : Expr} {t t' : TE} (h : PE X e t) (k : ∀ σ H Q, t' σ H Q → t σ H Q) : PE X e t' := ⟨fun pins s σ H Q I q => h.run pins s σ H Q I (k σ H Q q)⟩
theorem PT.imp {e : Expr} {t t' : TT} (h : PT X e t) (k : ∀ σ H Q, t' σ H Q → t σ H Q) : PT X e t' := ⟨fun pins s σ H Q I q => h.run pins s σ H Q I (k σ H Q q)⟩
theorem PW.imp {e : Expr} {t t' : TT} (h : PW X e t) (k : ∀ σ H Q, t' σ H Q → t σ H Q) : PW X e t' := ⟨fun wh pins s σ H Q I q => h.run wh pins s σ H Q I (k σ H Q q)⟩
theorem PTs.imp {e : List Expr} {t t' : TT} (h : PTs X e t) (k : ∀ σ H Q, t' σ H Q → t σ H Q) : PTs X e t' := ⟨fun pins s σ H Q I q => h.run pins s σ H Q I (k σ H Q q)⟩
theorem PA.imp {e : List Expr} {t t' : TA} (h : PA X e t) (k : ∀ σ H Q, t' σ H Q → t σ H Q) : PA X e t' := ⟨fun pos pins s σ H Q I q => h.run pos pins s σ H Q I (k σ H Q q)⟩
theorem PO.imp {e : Option Expr} {t t' : TO} (h : PO X e t) (k : ∀ σ H Q, t' σ H Q → t σ H Q) : PO X e t' := ⟨fun pins s σ H Q I q => h.run pins s σ H Q I (k σ H Q q)⟩
theorem PG.imp {e : Expr} {t t' : TG} (h : PG X e t) (k : ∀ v σ H Q, t' v σ H Q → t v σ H Q) : PG X e t' := ⟨fun pins s σ H v u Q I r q => h.run pins s σ H v u Q I r (k v σ H Q q)⟩
theorem PI.imp {tg e : Expr} {t t' : TI} (h : PI X tg e t) (k : ∀ σ H Q, t' σ H Q → t σ H Q) : PI X tg e t' := ⟨fun pins s σ H Q I q => h.run pins s σ H Q I (k σ H Q q)⟩
theorem PS.imp {e : Stmt} {t t' : TS} (h : PS X e t) (k : ∀ D σ H, t' D σ H → t D σ H) : PS X e t' := ⟨fun pins s σ H D I q => h.run pins s σ H D I (k D σ H q)⟩
theorem PSs.imp {e : List Stmt} {t t' : TS} (h : PSs X e t) (k : ∀ D σ H, t' D σ H → t D σ H) : PSs X e t' := ⟨fun pins s σ H D I q => h.run pins s σ H D I (k D σ H q)⟩

/-! ### what the shapes of expressions decide -/
def plainE : Expr → Bool
  | .Starred _ _ => false
  | _ => true
theorem star_cons {e : Expr} (h : plainE e = true) (es : List Expr) (env : PySem.Env) : starEach (e :: es) env = (false, eval e env) :: starEach es env := by
  cases e <;> first | rfl | cases h
theorem star_none (pos : Pos) (env : PySem.Env) : ∀ es : List Expr, es.all plainE = true → (backTo pos (starEach es env)).any (·.1) = false
  | [], _ => rfl
  | e :: es, h => by
    simp only [List.all_cons, Bool.and_eq_true] at h
    rw [star_cons h.1]
    show (false || (backTo pos (starEach es env)).any (·.1)) = false
    rw [star_none pos env es h.2]
    rfl
theorem star_len (env : PySem.Env) : ∀ es : List Expr, (starEach es env).length = es.length
  | [] => rfl
  | e :: es => by
    cases e <;> (show (starEach es env).length + 1 = es.length + 1; rw [star_len env es])
def noSlice : Expr → Bool
  | .Slice _ _ _ _ => false
  | _ => true
theorem plain_ix {b : Expr} (h : noSlice b = true) : PlainIx b := by
  cases b <;> first | exact fun _ _ => rfl | cases h
def noSetE : Expr → Bool
  | .Set _ _ _ => false
  | _ => true
theorem no_behind {op : CmpOp} {b : Expr} (h : noSetE b = true) : behindInMarks op b = false := by
  cases b <;> first | rfl | cases h
theorem no_fold {it : Expr} (h : noSetE it = true) (env : PySem.Env) : ∀ x, foldedSetIterable it env x = pure x := by
  intro x
  cases it <;> first | rfl | cases h
/-- an expression whose test is its value's -/
def plainT : Expr → Bool
  | .Name _ _ => true
  | .Call _ _ _ _ => true
  | .Subscript _ _ _ => true
  | .Constant _ _ _ => true
  | _ => false
theorem plain_test {e : Expr} (h : plainT e = true) (env : PySem.Env) : ∀ whole, isTrue e env whole = (do let v ← whole; standAt e.pos; holding [v] (truthy v)) := by
  intro w
  cases e <;> first | rfl | cases h
/-- a receiver of a method -/
def plainO : Expr → Bool
  | .Call _ [] _ _ => false
  | _ => true
theorem plain_base {o : Expr} (h : plainO o = true) (n : Str) (env : PySem.Env) : attributeBase o n env (eval o env) = eval o env := by
  cases o with
  | Call f as ks p =>
    cases as with
    | nil => cases h
    | cons a as => cases f <;> rfl
  | _ => rfl

/-! ### names, constants -/
variable {c : Ctx} {pos : Pos}
theorem s_var {i : Nat} {x : Str} (hN : X.N[i]? = some x) (hv : Vis X.env.scope x) (hd : (x == ("__debug__" : Str)) = false) (hcd : (x == ("__classdict__" : Str)) = false) : PE X (.Name x pos) (tE X.K c (.var i)) := by
  refine PE.imp (pe_var hN hv hd hcd) fun σ H Q h => ?_
  obtain ⟨hid, ρ, env, S, he, hs, h⟩ := h
  simp only [evalE] at h
  split at h
  · rename_i v q
    obtain ⟨w, h1, st, r⟩ := he.at_ i v q
    exact ⟨w, h1, h.pure hs w r (.of_st st)⟩
  · exact h.elim
def constOk : Val → Const → Bool
  | .non, .none => true
  | .bl a, .bool b => a == b
  | .int a, .int b => a == b
  | .str a, .str b => decide (strOf a = b)
  | _, _ => false
theorem s_lit {v : Val} {k : Const} {j : Nat} (h : constOk v k = true) : PE X (.Constant k j pos) (tE X.K c (.lit v)) := by
  have fin : ∀ {σ H Q} {w : V}, (∀ hid ρ, Rep X.K hid ρ H v w) → v.st = true → tE X.K c (.lit v) σ H Q → Q w H := fun {σ H Q w} r st h => by
    obtain ⟨hid, ρ, env, S, he, hs, h⟩ := h
    simp only [evalE] at h
    exact h.pure hs w (r hid ρ) (.of_st st)
  cases v <;> cases k <;> simp only [constOk] at h <;> try (cases h; done)
  · exact PE.imp pe_non fun σ H Q q => fin (fun _ _ => .of_non) rfl q
  · rename_i a b
    cases (beq_iff_eq.mp h)
    exact PE.imp pe_bl fun σ H Q q => fin (fun _ _ => .of_bl) rfl q
  · rename_i a b
    cases (beq_iff_eq.mp h)
    exact PE.imp pe_int fun σ H Q q => fin (fun _ _ => .of_int) rfl q
  · rename_i a b
    have e := of_decide_eq_true h
    subst e
    exact PE.imp pe_str fun σ H Q q => fin (fun _ _ => .of_str) rfl q
/-- a module's constant: an int, a text -/
def flatIs : Val → Value → Prop
  | .int i, u => ∃ t, u = .int i t
  | .str s, u => ∃ t, u = .str (strOf s) t
  | _, _ => False
theorem s_con {i : Nat} {x : Str} {u : Value} (hg : Gl X x) (hm : X.mg x = some u) (hu : ∀ v, c.con i = some v → flatIs v u) (hd : (x == ("__debug__" : Str)) = false) : PE X (.Name x pos) (tE X.K c (.con i)) := by
  refine ⟨fun pins s σ H Q I h => ?_⟩
  obtain ⟨hid, ρ, env, S, he, hs, h⟩ := h
  simp only [evalE] at h
  obtain ⟨v, e, h⟩ := h.of
  have q := hu v e
  cases v <;> simp only [flatIs] at q
  · rename_i k
    exact (pe_glob (v := .int k) hg hm q hd).run pins s σ H Q I (fin_same hs h .of_int trivial)
  · rename_i k
    exact (pe_glob (v := .str (strOf k)) hg hm q hd).run pins s σ H Q I (fin_same hs h .of_str trivial)

/-! ### two and three parts -/
variable {xa xb xc : Expr} {ea eb ec : E}
/-- two parts and a rule over their values -/
theorem two_parts {e : E} {r : R2} {σ : L2.St} {H : Hp} {Q : VK} {f : Val → Val → Sto → R Val} (he : ∀ env S, evalE c e env S = (evalE c ea env S).bind fun x S1 => (evalE c eb env S1).bind fun y S2 => f x y S2)
    (h : tE X.K c e σ H Q) (k : ∀ hid ρ H0 ρ' H' S x y v w, Ext ρ H0 ρ' H' → SOk X.K hid ρ' H' S → Rep X.K hid ρ' H' x v → Rep X.K hid ρ' H' y w → Out X.K hid ρ' H' (f x y S) (fun z S2 ρ2 H2 => ∀ u, Rep X.K hid ρ2 H2 z u → Fresh X.K hid ρ2 H2 S2 H' z u → Q u H2) → r v w H' Q) :
    tOp r (tE X.K c ea) (tE X.K c eb) σ H Q := by
  obtain ⟨hid, ρ, env, S, hE, hs, h⟩ := h
  rw [he] at h
  refine tE.of hE hs h fun x S1 ρ1 H1 v e1 s1 r1 f1 h1 => tE.of (hE.mono e1) s1 h1 fun y S2 ρ2 H2 w e2 s2 r2 f2 h2 => ?_
  exact k hid ρ H ρ2 H2 S2 x y v w (e1.trans e2) s2 (Rep.mono e2 x v r1) r2 (h2.mono fun z S3 ρ3 H3 e3 q u ru fu => q u ru (fu.anti (e1.trans e2)))
def opOf : BOp → Operator
  | .add => .Add
  | .sub => .Sub
  | .mul => .Mult
  | .fdiv => .FloorDiv
  | .mod => .Mod
  | .pow => .Pow
theorem op_all (op : BOp) : OpR X (binaryOp (opOf op)) (rOf X.K fun S => QE.bin S op) := by
  cases op
  · exact op_addQ
  · exact op_subQ
  · exact op_mulQ
  · exact op_fdivQ
  · exact op_modQ
  · exact op_powQ
theorem s_bin {op : BOp} (ha : PE X xa (tE X.K c ea)) (hb : PE X xb (tE X.K c eb)) : PE X (.BinOp xa (opOf op) xb pos) (tE X.K c (.bin op ea eb)) := by
  refine PE.imp (pe_op (op_all op) ha hb) fun σ H Q h => ?_
  exact two_parts (f := fun x y S => R.of (QE.bin S op x y) S) (fun env S => by simp only [evalE]) h fun hid ρ H0 ρ' H' S x y v w _ s r1 r2 o => ⟨hid, ρ', S, x, y, s, r1, r2, o⟩
theorem s_neg (ha : PE X xa (tE X.K c ea)) : PE X (.UnaryOp .USub xa pos) (tE X.K c (.neg ea)) := by
  refine PE.imp (pe_un un_neg ha) fun σ H Q h => ?_
  obtain ⟨hid, ρ, env, S, hE, hs, h⟩ := h
  simp only [evalE] at h
  refine tE.of hE hs h fun x S1 ρ1 H1 v e1 s1 r1 f1 h1 => ?_
  obtain ⟨i, S2, q, hk⟩ := h1.bind
  obtain ⟨hx, hS⟩ := asInt_ok q
  subst hx hS
  cases r1.int_
  exact ⟨i, rfl, (hk ρ1 H1 (Ext.refl _ _)).pure s1 _ .of_int trivial⟩
def cmpOf : COp → CmpOp
  | .eq => .Eq
  | .ne => .NotEq
  | .lt => .Lt
  | .le => .LtE
  | .gt => .Gt
  | .ge => .GtE
  | .in_ => .In
  | .nin => .NotIn
  | .is_ => .Is
  | .isn => .IsNot
theorem cmp_all (hu : X.A.units + 65 < cLine) (op : COp) : OpR X (compareOp (cmpOf op)) (rCo X.K fun S => QE.cmp S op) := by
  cases op
  · exact op_eqQ (by omega)
  · exact op_neQ (by omega)
  · exact op_ltQ (by omega)
  · exact op_leQ
  · exact op_gtQ
  · exact op_geQ
  · exact op_inQ hu
  · exact op_ninQ hu
  · exact op_isQ
  · exact op_isnQ
theorem s_cmp {op : COp} (hu : X.A.units + 65 < cLine) (ha : PE X xa (tE X.K c ea)) (hb : PE X xb (tE X.K c eb)) (hm : noSetE xb = true) : PE X (.Compare xa [cmpOf op] [xb] pos) (tE X.K c (.cmp op ea eb)) := by
  refine PE.imp (pe_cmpR (cmp_all hu op) ha hb (no_behind hm)) fun σ H Q h => ?_
  refine two_parts (f := fun x y S => (R.of (QE.cmp S op x y) S).bind fun r S3 => .ok (.bl r) S3) (fun env S => by simp only [evalE]) h fun hid ρ H0 ρ' H' S x y v w _ s r1 r2 o => ?_
  obtain ⟨b, S3, q, hk⟩ := o.bind
  cases hc : QE.cmp S op x y with
  | none => rw [hc] at q; cases q
  | some b' =>
    rw [hc] at q
    cases q
    exact ⟨hid, ρ', S, x, y, b, s, r1, r2, hc, (hk ρ' H' (Ext.refl _ _)).pure s _ .of_bl trivial⟩
theorem t_cmp {op : COp} (hu : X.A.units + 65 < cLine) (ha : PE X xa (tE X.K c ea)) (hb : PE X xb (tE X.K c eb)) (hm : noSetE xb = true) : PT X (.Compare xa [cmpOf op] [xb] pos) (tT X.K c (.cmp op ea eb)) := by
  refine PT.imp (pt_cmpR (cmp_all hu op) ha hb (no_behind hm)) fun σ H Q h => ?_
  obtain ⟨hid, ρ, env, S, hE, hs, h⟩ := h
  have h' : tE X.K c (.cmp op ea eb) σ H (fun x H' => ∃ k, x = .bl k ∧ Q k H') := by
    refine ⟨hid, ρ, env, S, hE, hs, h.mono fun z S2 ρ2 H2 e q u ru fu => ?_⟩
    obtain ⟨b, ez, q⟩ := q
    subst ez
    exact ⟨b, ru.bl_, q⟩
  refine two_parts (f := fun x y S => (R.of (QE.cmp S op x y) S).bind fun r S3 => .ok (.bl r) S3) (fun env S => by simp only [evalE]) h' fun hid ρ H0 ρ' H' S x y v w _ s r1 r2 o => ?_
  obtain ⟨b, S3, q, hk⟩ := o.bind
  cases hc : QE.cmp S op x y with
  | none => rw [hc] at q; cases q
  | some b' =>
    rw [hc] at q
    cases q
    exact ⟨hid, ρ', S, x, y, b, s, r1, r2, hc, (hk ρ' H' (Ext.refl _ _)).pure s _ .of_bl trivial⟩
theorem chain_core {o1 o2 : COp} {σ : L2.St} {H : Hp} {Q : VK} (h : tE X.K c (.chain o1 o2 ea eb ec) σ H Q) :
    tChain (rCo X.K fun S => QE.cmp S o1) (rCo X.K fun S => QE.cmp S o2) (tE X.K c ea) (tE X.K c eb) (tE X.K c ec) σ H Q := by
  obtain ⟨hid, ρ, env, S, hE, hs, h⟩ := h
  simp only [evalE] at h
  refine tE.of hE hs h fun x S1 ρ1 H1 v e1 s1 r1 f1 h1 => tE.of (hE.mono e1) s1 h1 fun y S2 ρ2 H2 w e2 s2 r2 f2 h2 => ?_
  obtain ⟨b, S3, q, hk⟩ := h2.bind
  cases hc : QE.cmp S2 o1 x y with
  | none => rw [hc] at q; cases q
  | some b' =>
    rw [hc] at q
    cases q
    have h3 := hk ρ2 H2 (Ext.refl _ _)
    refine ⟨hid, ρ2, S2, x, y, b, s2, Rep.mono e2 x v r1, r2, hc, b, rfl, ?_⟩
    cases b with
    | false =>
      simp only [Bool.false_eq_true, if_false] at h3 ⊢
      exact h3.pure s2 _ .of_bl trivial
    | true =>
      simp only [if_true] at h3 ⊢
      refine tE.of ((hE.mono e1).mono e2) s2 h3 fun z S4 ρ4 H4 u e4 s4 r4 f4 h4 => ?_
      obtain ⟨b2, S5, q2, hk2⟩ := h4.bind
      cases hc2 : QE.cmp S4 o2 y z with
      | none => rw [hc2] at q2; cases q2
      | some b3 =>
        rw [hc2] at q2
        cases q2
        exact ⟨hid, ρ4, S4, y, z, b2, s4, Rep.mono e4 y w r2, r4, hc2, (hk2 ρ4 H4 (Ext.refl _ _)).pure s4 _ .of_bl trivial⟩
theorem no_last {o1 o2 : CmpOp} {b d : Expr} (h : noSetE d = true) : lastMarks [o1, o2] [b, d] = false := by
  show behindInMarks o2 d = false
  exact no_behind h
theorem s_chain {o1 o2 : COp} (hu : X.A.units + 65 < cLine) (ha : PE X xa (tE X.K c ea)) (hb : PE X xb (tE X.K c eb)) (hc : PE X xc (tE X.K c ec)) (hm : noSetE xc = true) : PE X (.Compare xa [cmpOf o1, cmpOf o2] [xb, xc] pos) (tE X.K c (.chain o1 o2 ea eb ec)) :=
  PE.imp (pe_chain (cmp_all hu o1) (cmp_all hu o2) ha hb hc (no_last hm)) fun σ H Q h => chain_core h
theorem tE_of_tT {e : E} {σ : L2.St} {H : Hp} {Q : Bool → Hp → Prop} (h : tT X.K c e σ H Q) : tE X.K c e σ H fun x H' => ∃ k, x = .bl k ∧ Q k H' := by
  obtain ⟨hid, ρ, env, S, hE, hs, h⟩ := h
  refine ⟨hid, ρ, env, S, hE, hs, h.mono fun z S2 ρ2 H2 e q u ru fu => ?_⟩
  obtain ⟨b, ez, q⟩ := q
  subst ez
  exact ⟨b, ru.bl_, q⟩
theorem t_chain {o1 o2 : COp} (hu : X.A.units + 65 < cLine) (ha : PE X xa (tE X.K c ea)) (hb : PE X xb (tE X.K c eb)) (hc : PE X xc (tE X.K c ec)) (hm : noSetE xc = true) : PT X (.Compare xa [cmpOf o1, cmpOf o2] [xb, xc] pos) (tT X.K c (.chain o1 o2 ea eb ec)) :=
  PT.imp (pt_chain (cmp_all hu o1) (cmp_all hu o2) ha hb hc (no_last hm)) fun σ H Q h => chain_core (tE_of_tT h)
/-- a test by its value -/
theorem t_val {e : E} (h : PE X xa (tE X.K c e)) (hp : plainT xa = true) : PT X xa (tT X.K c e) :=
  PT.imp (pt_val h (plain_test hp X.env)) fun σ H Q q => tE_of_tT q

/-! ### not, if -/
theorem s_not (ha : PE X xa (tE X.K c ea)) : PE X (.UnaryOp .Not xa pos) (tE X.K c (.not ea)) := by
  refine PE.imp (pe_not ha) fun σ H Q h => ?_
  obtain ⟨hid, ρ, env, S, hE, hs, h⟩ := h
  simp only [evalE] at h
  refine tE.of hE hs h fun x S1 ρ1 H1 v e1 s1 r1 f1 h1 => ?_
  obtain ⟨b, S2, q, hk⟩ := h1.bind
  obtain ⟨hx, hS⟩ := asBl_ok q
  subst hx hS
  exact ⟨b, r1.bl_, (hk ρ1 H1 (Ext.refl _ _)).pure s1 _ .of_bl trivial⟩
theorem t_not (ha : PT X xa (tT X.K c ea)) : PT X (.UnaryOp .Not xa pos) (tT X.K c (.not ea)) := by
  refine PT.imp (pt_not ha) fun σ H Q h => ?_
  obtain ⟨hid, ρ, env, S, hE, hs, h⟩ := h
  simp only [evalE] at h
  refine tT.of hE hs h fun b S1 ρ1 H1 e1 s1 h1 => ?_
  obtain ⟨b', eb, q⟩ := h1.pure s1
  cases eb
  exact q
theorem s_ite (hc : PT X xc (tT X.K c ec)) (ha : PE X xa (tE X.K c ea)) (hb : PE X xb (tE X.K c eb)) : PE X (.IfExp xc xa xb pos) (tE X.K c (.ite ec ea eb)) := by
  refine PE.imp (pe_ifExp hc ha hb) fun σ H Q h => ?_
  obtain ⟨hid, ρ, env, S, hE, hs, h⟩ := h
  simp only [evalE] at h
  refine tT.of hE hs h fun b S1 ρ1 H1 e1 s1 h1 => ?_
  cases b with
  | true => exact ⟨hid, ρ1, env, S1, hE.mono e1, s1, h1.mono fun z S2 ρ2 H2 e q u ru fu => q u ru (fu.anti e1)⟩
  | false => exact ⟨hid, ρ1, env, S1, hE.mono e1, s1, h1.mono fun z S2 ρ2 H2 e q u ru fu => q u ru (fu.anti e1)⟩

/-! ### argument lists -/
theorem a_nil : PA X [] (tEs X.K c []) := by
  refine PA.imp pa_nil fun σ H Q h => ?_
  obtain ⟨hid, ρ, env, S, hE, hs, h⟩ := h
  simp only [evalEs] at h
  exact h.pure hs [] .nil
theorem a_cons {xs : List Expr} {es : List E} (ha : PE X xa (tE X.K c ea)) (hr : PA X xs (tEs X.K c es)) (hp : plainE xa = true) : PA X (xa :: xs) (tEs X.K c (ea :: es)) := by
  refine PA.imp (pa_cons ha hr (star_cons hp xs X.env)) fun σ H Q h => ?_
  obtain ⟨hid, ρ, env, S, hE, hs, h⟩ := h
  simp only [evalEs] at h
  refine tE.of hE hs h fun x S1 ρ1 H1 v e1 s1 r1 f1 h1 => tEs.of (hE.mono e1) s1 h1 fun ys S2 ρ2 H2 ws e2 s2 r2 h2 => ?_
  exact h2.pure s2 _ (RepL.cons ⟨st_settle x, (Rep.mono e2 x v r1).settle⟩ r2)
theorem s_tup {k : Nat} {xs : List Expr} {es : List E} (h : PA X xs (tEs X.K c es)) : PE X (.Tuple xs k pos) (tE X.K c (.tup es)) := by
  refine PE.imp (pe_tup h) fun σ H Q h => ?_
  obtain ⟨hid, ρ, env, S, hE, hs, h⟩ := h
  simp only [evalE] at h
  refine tEs.of hE hs h fun xs S1 ρ1 H1 vs e1 s1 r1 h1 => ?_
  split at h1
  · rename_i hz
    refine ⟨by rw [r1.length, ← lim_eq]; exact hz, fun p hp => ?_⟩
    exact h1 ρ1 _ (Ext.new hp) (s1.new hp) _ (rep_newT hp r1) trivial
  · exact h1.elim
theorem s_list {xs : List Expr} {es : List E} (h : PA X xs (tEs X.K c es)) : PE X (.List xs pos) (tE X.K c (.list es)) := by
  refine PE.imp (pe_lst h) fun σ H Q h => ?_
  obtain ⟨hid, ρ, env, S, hE, hs, h⟩ := h
  simp only [evalE] at h
  refine tEs.of hE hs h fun xs S1 ρ1 H1 vs e1 s1 r1 h1 => ?_
  split at h1
  · rename_i hz
    refine ⟨by rw [r1.length, ← lim_eq]; exact hz, fun p hp => ?_⟩
    exact h1 ρ1 _ (Ext.new hp) (s1.new hp) _ (rep_newL s1 hp r1) (fresh_newL s1 hp (e1.free (.of hp)) r1)
  · exact h1.elim
theorem s_dnew {t : Bool} : PE X (.Dict [] [] pos) (tE X.K c (.dnew t)) := by
  have nt : ∀ {hid ρ : List Addr} {H : Hp} {S : Sto} {p : Addr}, SOk X.K hid ρ H S → H p = none → Rep X.K hid ρ (upd H p (.dT [])) (.dic true true []) (.ref p) := fun {hid ρ H S p} s hp => by
    simp only [Rep]
    exact ⟨p, [], rfl, upd_same, s.new1 hp, s.new2 hp, by simp only [RepT]⟩
  have nf : ∀ {hid ρ : List Addr} {H : Hp} {S : Sto} {p : Addr}, SOk X.K hid ρ H S → H p = none → Rep X.K hid ρ (upd H p (.dK [])) (.dic true false []) (.ref p) := fun {hid ρ H S p} s hp => by
    simp only [Rep]
    exact ⟨p, [], rfl, upd_same, s.new1 hp, s.new2 hp, by simp only [RepK]⟩
  cases t with
  | true =>
    refine PE.imp pe_dnewT fun σ H Q h => ?_
    obtain ⟨hid, ρ, env, S, hE, hs, h⟩ := h
    simp only [evalE] at h
    exact fun p hp => h ρ _ (Ext.new hp) (hs.new hp) _ (nt hs hp) ⟨p, rfl, .of hp, hs.newC hp ⟨[], upd_same, by simp only [RepT]⟩⟩
  | false =>
    refine PE.imp pe_dnewK fun σ H Q h => ?_
    obtain ⟨hid, ρ, env, S, hE, hs, h⟩ := h
    simp only [evalE] at h
    exact fun p hp => h ρ _ (Ext.new hp) (hs.new hp) _ (nf hs hp) ⟨p, rfl, .of hp, hs.newC hp ⟨[], upd_same, by simp only [RepK]⟩⟩

/-! ### items, slices -/
theorem s_idx (hu : X.A.units + 65 < cLine) (ha : PE X xa (tE X.K c ea)) (hb : PE X xb (tE X.K c eb)) (hp : noSlice xb = true) : PE X (.Subscript xa xb pos) (tE X.K c (.idx ea eb)) := by
  refine PE.imp (pe_ix (ix_Q (by omega)) ha hb (plain_ix hp)) fun σ H Q h => ?_
  exact two_parts (f := fun x y S => R.of (item S x y) S) (fun env S => by simp only [evalE]) h fun hid ρ H0 ρ' H' S x y v w _ s r1 r2 o => ⟨hid, ρ', S, x, y, s, r1, r2, o⟩
def tO (K : PySem.W.Frag) (c : Ctx) (o : Option E) : TO := fun σ H Q => ∃ hid ρ env S, ERep K hid ρ H env σ ∧ SOk K hid ρ H S ∧ Out K hid ρ H (evalO c o env S) fun x _ _ H' => Q x H'
theorem o_none : PO X none (tO X.K c none) := by
  refine PO.imp po_none fun σ H Q h => ?_
  obtain ⟨hid, ρ, env, S, hE, hs, h⟩ := h
  simp only [evalO] at h
  exact h.pure hs
theorem o_some (ha : PE X xa (tE X.K c ea)) : PO X (some xa) (tO X.K c (some ea)) := by
  refine PO.imp (po_some ha) fun σ H Q h => ?_
  obtain ⟨hid, ρ, env, S, hE, hs, h⟩ := h
  simp only [evalO] at h
  refine tE.of hE hs h fun x S1 ρ1 H1 v e1 s1 r1 f1 h1 => ?_
  obtain ⟨i, S2, q, hk⟩ := h1.bind
  obtain ⟨hx, hS⟩ := asInt_ok q
  subst hx hS
  exact ⟨i, r1.int_, (hk ρ1 H1 (Ext.refl _ _)).pure s1⟩
theorem tO.of {K : PySem.W.Frag} {o : Option E} {hid ρ : List Addr} {H : Hp} {env : Env} {S : Sto} {σ : L2.St} {β : Type} {f : Option Int → Sto → R β} {G : β → Sto → List Addr → Hp → Prop} {Q : Option Int → Hp → Prop}
    (he : ERep K hid ρ H env σ) (hs : SOk K hid ρ H S) (h : Out K hid ρ H ((evalO c o env S).bind f) G)
    (k : ∀ x S1 ρ1 H1, Ext ρ H ρ1 H1 → SOk K hid ρ1 H1 S1 → Out K hid ρ1 H1 (f x S1) G → Q x H1) : tO K c o σ H Q := by
  obtain ⟨x, S1, q, hk⟩ := h.bind
  refine ⟨hid, ρ, env, S, he, hs, ?_⟩
  rw [q]
  exact fun ρ1 H1 e1 s1 => k x S1 ρ1 H1 e1 s1 (hk ρ1 H1 e1)
theorem s_slice {lo hi : Option Expr} {el eh : Option E} {p2 : Pos} (ha : PE X xa (tE X.K c ea)) (hl : PO X lo (tO X.K c el)) (hh : PO X hi (tO X.K c eh)) : PE X (.Subscript xa (.Slice lo hi none p2) pos) (tE X.K c (.slice ea el eh)) := by
  refine PE.imp (pe_slice sl_Q ha hl hh) fun σ H Q h => ?_
  obtain ⟨hid, ρ, env, S, hE, hs, h⟩ := h
  simp only [evalE] at h
  refine tE.of hE hs h fun x S1 ρ1 H1 v e1 s1 r1 f1 h1 => tO.of (hE.mono e1) s1 h1 fun l S2 ρ2 H2 e2 s2 h2 => tO.of ((hE.mono e1).mono e2) s2 h2 fun u S3 ρ3 H3 e3 s3 h3 => ?_
  exact ⟨hid, ρ3, S3, x, s3, Rep.mono e3 x v (Rep.mono e2 x v r1), h3.mono fun z S4 ρ4 H4 e q w rw' fw => q w rw' (fw.anti ((e1.trans e2).trans e3))⟩
end
end QE

set_option Elab.async false
set_option linter.all false
set_option maxRecDepth 10000
set_option maxHeartbeats 1000000
/-! min of a list, dict of a list of pairs. -/
namespace QE
open PySem PySem.Spec PyProof.Rows L2
theorem minI_mem (a : Int) : ∀ l : List Int, minI a l ∈ a :: l
  | [] => by simp [minI]
  | x :: l => by
    have h := minI_mem (if x < a then x else a) l
    have e : minI a (x :: l) = minI (if x < a then x else a) l := rfl
    rw [e]
    rcases List.mem_cons.mp h with h | h
    · rw [h]
      split <;> simp
    · simp [h]
theorem minI_le (a : Int) : ∀ (l : List Int) (y : Int), y ∈ a :: l → minI a l ≤ y
  | [], y, h => by simp at h; subst h; exact Int.le_refl _
  | x :: l, y, h => by
    have e : minI a (x :: l) = minI (if x < a then x else a) l := rfl
    rw [e]
    have h0 := minI_le (if x < a then x else a) l (if x < a then x else a) (by simp)
    simp only [List.mem_cons] at h
    rcases h with h | h | h
    · subst h; split at h0 <;> split <;> omega
    · subst h; split at h0 <;> split <;> omega
    · exact minI_le _ l y (by simp [h])
theorem minP_eq (a : Int × Int) (l : List (Int × Int)) : PySem.W.minOf a l = minP a l := rfl
theorem hold_inj {h : Heap} {w : Value} {x y : Int × Int} (h1 : PySem.W.Holds h w x) (h2 : PySem.W.Holds h w y) : x = y := by
  obtain ⟨as, r1⟩ := h1
  obtain ⟨bs, r2⟩ := h2
  obtain ⟨x1, x2⟩ := x
  obtain ⟨y1, y2⟩ := y
  have r1 : Reads h w (.tuple [.int x1, .int x2]) as := r1
  have r2 : Reads h w (.tuple [.int y1, .int y2]) bs := r2
  cases r1 with
  | tuple g1 c1 d1 a1 =>
    cases r2 with
    | tuple g2 c2 d2 a2 =>
      rw [g1] at g2
      cases g2
      rw [d1] at d2
      cases d2
      revert a1 a2
      generalize Array.toList _ = l
      intro a1 a2
      cases a1 with
      | cons u1 a1 =>
        cases a2 with
        | cons u2 a2 =>
          cases a1 with
          | cons u3 a1 =>
            cases a2 with
            | cons u4 a2 =>
              cases u1
              cases u2
              cases u3
              cases u4
              rfl
theorem pairs_nth : ∀ {xs : List Val} {ps : List (Int × Int)} {i : Nat} {x : Val}, pairs? xs = some ps → xs[i]? = some x → ∃ p, ps[i]? = some p ∧ x = .tup [.int p.1, .int p.2]
  | [], _, _, _, _, h => by simp at h
  | y :: xs, ps, i, x, e, h => by
    unfold pairs? at e
    split at e
    · rename_i z; cases z
    · rename_i a b r' hx
      cases hx
      split at e <;> cases e
      rename_i l hl
      cases i with
      | zero => simp at h; subst h; exact ⟨(a, b), rfl, rfl⟩
      | succ i =>
        obtain ⟨p, h1, h2⟩ := pairs_nth hl (by simpa using h)
        exact ⟨p, by simpa using h1, h2⟩
    · cases e
section
variable {X : Cx}
/-- tuples of two ints, as they lie -/
theorem pairs_hold {pins : List (Addr × Obj)} {σ : L2.St} {H : Hp} {s : Shared} {hid ρ : List Addr} (I : Inv X pins σ H s) : ∀ {xs : List Val} {ps : List (Int × Int)} {vs : List V} {us : List Value}, pairs? xs = some ps → RepL X.K hid ρ H xs vs → Vals vs us → PySem.W.HoldAll s.heap us ps
  | [], ps, vs, us, e, r, w => by
    simp only [pairs?, Option.some.injEq] at e
    subst e
    simp only [RepL] at r
    subst r
    cases w
    exact .nil
  | x :: xs, ps, vs, us, e, r, w => by
    unfold pairs? at e
    split at e
    · rename_i h; cases h
    · rename_i a b r' hx
      cases hx
      split at e <;> cases e
      rename_i l hl
      simp only [RepL] at r
      obtain ⟨v, vr, e1, r1, r2⟩ := r
      subst e1
      cases w with
      | cons wu wr =>
        refine .cons ?_ (pairs_hold I hl r2 wr)
        have r1 := r1.2
        simp only [Rep, RepL] at r1
        obtain ⟨t, ws, ev, ht, v1, w1, q1, ⟨_, q2⟩, v2, w2, q3, ⟨_, q4⟩, q5⟩ := r1
        subst ev q5 q3 q1 q2 q4
        obtain ⟨its, rv, tp, _⟩ := I.tuple (SqT.of ht)
        cases wu
        cases rv with
        | cons ra rr =>
          cases rr with
          | cons rb rr =>
            cases rr
            obtain ⟨ta, rfl⟩ := ra
            obtain ⟨tb, rfl⟩ := rb
            exact PySem.W.holds_pair tp (PySem.W.holds_int _ _) (PySem.W.holds_int _ _)
    · cases e
theorem cr_minQ (hc : X.calm = true) (hu : X.A.units + 65 < cLine) : CallR X (.builtin "min") (rBi X.K fun S xs => callBi S .minL xs) := by
  intro pins s σ H vs us Q I r h
  obtain ⟨hid, ρ, S, xs, so, rx, h⟩ := h
  obtain ⟨z, e, hh⟩ := h.of
  clear h
  match xs, rx, e with
  | [x], rx, e =>
    obtain ⟨v, ev, r1⟩ := rx.one
    subst ev
    simp only [callBi] at e
    cases hys : asList S x with
    | none => rw [hys] at e; cases e
    | some ys =>
    rw [hys] at e
    obtain ⟨a, ws, ea, hd, rl⟩ := asList_rep so hys r1
    subst ea
    simp only [minV] at e
    cases hi : ints? ys with
    | some l =>
      rw [hi] at e
      cases l with
      | nil => cases e
      | cons i l =>
        cases e
        have ew := ints_rep rl hi
        subst ew
        refine cr_min hc pins s σ H _ _ Q I r ⟨a, i :: l, rfl, .inl hd, by simp, fun m hm hle => ?_⟩
        have em : m = minI i l := Int.le_antisymm (hle _ (minI_mem i l)) (minI_le i l m hm)
        subst em
        exact fin_same so hh .of_int trivial
    | none =>
      rw [hi] at e
      cases hp : pairs? ys with
      | none => rw [hp] at e; cases e
      | some l =>
        rw [hp] at e
        cases l with
        | nil => cases e
        | cons p l =>
          cases e
          obtain ⟨its, rv, hl, _⟩ := I.list (.inl hd)
          have hold := pairs_hold I hp rl rv
          rw [Vals.ref1 r]
          refine PySem.W.min_list_datum (I.ok.hd hc) hl.isList hold (by show X.A.units + 1 + (max 0 0 + 1) < cLine; omega) fun j w h' tk hj hw hk => ?_
          rw [minP_eq] at hw
          have hj' : its[j]? = some w := by simpa using hj
          have hjl : j < ws.length := by
            rw [rv.length]
            exact (List.getElem?_eq_some_iff.mp hj').1
          have hy : ws[j]? = some ws[j] := List.getElem?_eq_getElem hjl
          obtain ⟨w2, hw2, ry⟩ := rv.get hy
          rw [hj'] at hw2
          cases hw2
          have hjx : j < ys.length := by rw [← rl.length]; exact hjl
          obtain ⟨w3, hw3, st, rx'⟩ := rl.get (List.getElem?_eq_getElem hjx)
          rw [hy] at hw3
          cases hw3
          have J : Inv X pins σ H { s with heap := h', toks := tk } := I.kept hk
          obtain ⟨q, hq, ex⟩ := pairs_nth hp (List.getElem?_eq_getElem hjx)
          obtain ⟨q', hq', hold'⟩ := hold.at hj'
          rw [hq] at hq'
          cases hq'
          have eq := hold_inj (hold'.keeps hk) hw
          rw [ex] at rx'
          refine ⟨ws[j], H, J, ry, ?_⟩
          rw [← eq] at hh
          exact fin_same so hh rx' trivial
/-- pairs of a list, as a dict takes them -/
theorem dict_pairs {K : PySem.W.Frag} {hid ρ : List Addr} {H : Hp} : ∀ {xs : List Val} {acc kvs : List (Val × Val)} {vs : List V} {ws : List (L2.Key × V)}, dictV xs acc = some kvs → RepL K hid ρ H xs vs → RepK K hid ρ H acc ws →
    ∃ (ps : List Addr) (ks : List (L2.Key × V)), vs = ps.map V.ref ∧ Paired (fun p kv => SqT K H p [kV kv.1, kv.2]) ps ks ∧ RepK K hid ρ H kvs (ks.foldl (fun a kv => putK a kv.1 kv.2) ws)
  | [], acc, kvs, vs, ws, e, r, q => by
    simp only [dictV, Option.some.injEq] at e
    subst e
    simp only [RepL] at r
    subst r
    exact ⟨[], [], rfl, .nil, q⟩
  | x :: xs, acc, kvs, vs, ws, e, r, q => by
    have sh : ∃ k v, x = .tup [k, v] ∧ k.flatKey = true ∧ dictV xs (dPut k v acc) = some kvs := by
      cases x with
      | tup ys =>
        match ys, e with
        | [k, v], e =>
          simp only [dictV] at e
          split at e
          · rename_i hk; exact ⟨k, v, rfl, hk, e⟩
          · cases e
        | [], e => simp [dictV] at e
        | [_], e => simp [dictV] at e
        | _ :: _ :: _ :: _, e => simp [dictV] at e
      | _ => simp [dictV] at e
    obtain ⟨k, v, ex, hk, e'⟩ := sh
    subst ex
    simp only [RepL] at r
    obtain ⟨v0, vr, e1, r1, r2⟩ := r
    subst e1
    have r1 := r1.2
    simp only [Rep, RepL] at r1
    obtain ⟨t, us, ev, ht, v1, w1, q1, q2, v2, w2, q3, q4, q5⟩ := r1
    subst ev q5 q3 q1
    obtain ⟨ps, ks, e2, e3, e4⟩ := dict_pairs e' r2 (RepK.put hk q4 q)
    subst e2
    refine ⟨t :: ps, (keyOf k, v2) :: ks, rfl, .cons ?_ e3, e4⟩
    have ek : v1 = kV (keyOf k) := by
      cases k <;> first | (cases hk; done) | skip
      · exact q2.2.int_
      · exact q2.2.str_
    rw [← ek]
    exact SqT.of ht
theorem cr_dictQ (hc : X.calm = true) : CallR X (.type "dict") (rBi X.K fun S xs => callBi S .dict xs) := by
  intro pins s σ H vs us Q I r h
  obtain ⟨hid, ρ, S, xs, so, rx, h⟩ := h
  obtain ⟨z, e, hh⟩ := h.of
  clear h
  match xs, rx, e with
  | [x], rx, e =>
    obtain ⟨v, ev, r1⟩ := rx.one
    subst ev
    simp only [callBi] at e
    cases hys : asList S x with
    | none => rw [hys] at e; cases e
    | some ys =>
    rw [hys] at e
    obtain ⟨a, ws, ea, hd, rl⟩ := asList_rep so hys r1
    subst ea
    have hz : ys.length ≤ lim := by
      apply Classical.byContradiction
      intro hz
      simp only [hz, if_false] at e
      cases e
    simp only [hz, if_true] at e
    cases hk : dictV ys [] with
    | none => rw [hk] at e; cases e
    | some kvs =>
    rw [hk] at e
    cases e
    obtain ⟨ps, ks, e2, e3, e4⟩ := dict_pairs hk rl (ws := []) (by simp only [RepK])
    subst e2
    refine call_dictP hc pins s σ H _ _ Q I r ⟨a, ps, ks, rfl, .inl hd, e3, fun p hp => ?_⟩
    have e5 : RepK X.K hid ρ (upd H p (.dK (mergeK [] ks))) kvs (mergeK [] ks) := RepK.mono (Ext.new hp) _ _ e4
    refine fin_new so hh hp ?_ ⟨p, rfl, .of hp, so.newC hp ⟨_, upd_same, RepK.mono (Ext.newC hp) _ _ e4⟩⟩
    simp only [Rep]
    exact ⟨p, _, rfl, upd_same, so.new1 hp, so.new2 hp, e5⟩
end
theorem maxI_ge : ∀ (l : List Int) (a : Int), a ≤ maxI a l ∧ ∀ y ∈ l, y ≤ maxI a l
  | [], a => ⟨Int.le_refl _, by simp⟩
  | x :: l, a => by
    have e : maxI a (x :: l) = maxI (if a < x then x else a) l := rfl
    obtain ⟨h1, h2⟩ := maxI_ge l (if a < x then x else a)
    rw [e]
    refine ⟨by split at h1 <;> split <;> simp_all <;> omega, fun y hy => ?_⟩
    rcases List.mem_cons.mp hy with rfl | hy
    · split at h1 <;> split <;> simp_all <;> omega
    · exact h2 y hy
theorem maxI_mem : ∀ (l : List Int) (a : Int), maxI a l ∈ a :: l
  | [], a => by simp [maxI]
  | x :: l, a => by
    have e : maxI a (x :: l) = maxI (if a < x then x else a) l := rfl
    have := maxI_mem l (if a < x then x else a)
    rw [e]
    split at this
    · rename_i h
      rw [if_pos h]
      rcases List.mem_cons.mp this with h | h
      · rw [h]; simp
      · exact List.mem_cons_of_mem _ (List.mem_cons_of_mem _ h)
    · rename_i h
      rw [if_neg h]
      rcases List.mem_cons.mp this with h | h
      · rw [h]; simp
      · exact List.mem_cons_of_mem _ (List.mem_cons_of_mem _ h)
theorem cr_maxQ {X : Cx} (hc : X.calm = true) : CallR X (.builtin "max") (rBi X.K fun S xs => callBi S .maxL xs) := by
  intro pins s σ H vs us Q I r h
  obtain ⟨hid, ρ, S, xs, so, rx, h⟩ := h
  obtain ⟨z, e, hh⟩ := h.of
  clear h
  match xs, rx, e with
  | [x], rx, e =>
    obtain ⟨v, ev, r1⟩ := rx.one
    subst ev
    simp only [callBi] at e
    split at e <;> cases e
    rename_i b bs hb
    obtain ⟨a, ea, h1⟩ := intsOf_rep so hb r1
    subst ea
    refine cr_max hc pins s σ H _ _ Q I r ⟨a, b :: bs, rfl, h1, by simp, fun m hm hy => ?_⟩
    have e : m = maxI b bs := by
      have h1 := hy _ (maxI_mem bs b)
      obtain ⟨g1, g2⟩ := maxI_ge bs b
      rcases List.mem_cons.mp hm with rfl | hm
      · omega
      · have := g2 m hm
        omega
    subst e
    exact fin_same so hh .of_int trivial
end QE

set_option Elab.async false
set_option linter.all false
set_option maxRecDepth 10000
set_option maxHeartbeats 1000000
/-! Expressions: and, or, calls, built-ins, methods, cells. -/
namespace QE
open PySem PySem.Spec PyProof.Rows L2
theorem R.bind_assoc {α β γ : Type} (r : R α) (f : α → Sto → R β) (g : β → Sto → R γ) : (r.bind f).bind g = r.bind fun a S => (f a S).bind g := by cases r <;> rfl
section
variable {X : Cx} {c : Ctx} {pos : Pos} {xa xb : Expr} {ea eb : E} {xs : List Expr} {es : List E}

/-! ### and, or -/
theorem s_and1 (ha : PE X xa (tE X.K c ea)) : PE X (.BoolOp .And [xa] pos) (tE X.K c (.and [ea])) := by
  refine PE.imp (pe_one ha) fun σ H Q h => ?_
  obtain ⟨hid, ρ, env, S, hE, hs, h⟩ := h
  simp only [evalE, evalAnd, R.bind_assoc] at h
  refine tE.of hE hs h fun x S1 ρ1 H1 v e1 s1 r1 f1 h1 => ?_
  obtain ⟨b, S2, q, hk⟩ := h1.bind
  obtain ⟨hx, hS⟩ := asBl_ok q
  subst hx hS
  cases r1.bl_
  have h2 := hk ρ1 H1 (Ext.refl _ _)
  cases b with
  | true => exact h2.pure s1 _ .of_bl trivial
  | false => exact h2.pure s1 _ .of_bl trivial
theorem s_and (ha : PE X xa (tE X.K c ea)) (hb : PE X (.BoolOp .And (xb :: xs) pos) (tE X.K c (.and (eb :: es)))) : PE X (.BoolOp .And (xa :: xb :: xs) pos) (tE X.K c (.and (ea :: eb :: es))) := by
  refine PE.imp (pe_and ha hb) fun σ H Q h => ?_
  obtain ⟨hid, ρ, env, S, hE, hs, h⟩ := h
  rw [evalE, evalAnd] at h
  simp only [R.bind_assoc] at h
  refine tE.of hE hs h fun x S1 ρ1 H1 v e1 s1 r1 f1 h1 => ?_
  obtain ⟨b, S2, q, hk⟩ := h1.bind
  obtain ⟨hx, hS⟩ := asBl_ok q
  subst hx hS
  have h2 := hk ρ1 H1 (Ext.refl _ _)
  refine ⟨b, r1.bl_, ?_⟩
  cases b with
  | true =>
    refine ⟨hid, ρ1, env, _, hE.mono e1, s1, ?_⟩
    rw [evalE]
    exact h2.mono fun z S2 ρ2 H2 e q u ru fu => q u ru (fu.anti e1)
  | false => exact h2.pure s1 _ .of_bl trivial
theorem s_or1 (ha : PE X xa (tE X.K c ea)) : PE X (.BoolOp .Or [xa] pos) (tE X.K c (.or [ea])) := by
  refine PE.imp (pe_one ha) fun σ H Q h => ?_
  obtain ⟨hid, ρ, env, S, hE, hs, h⟩ := h
  simp only [evalE, evalOr, R.bind_assoc] at h
  refine tE.of hE hs h fun x S1 ρ1 H1 v e1 s1 r1 f1 h1 => ?_
  obtain ⟨b, S2, q, hk⟩ := h1.bind
  obtain ⟨hx, hS⟩ := asBl_ok q
  subst hx hS
  cases r1.bl_
  have h2 := hk ρ1 H1 (Ext.refl _ _)
  cases b with
  | true => exact h2.pure s1 _ .of_bl trivial
  | false => exact h2.pure s1 _ .of_bl trivial
theorem s_or (ha : PE X xa (tE X.K c ea)) (hb : PE X (.BoolOp .Or (xb :: xs) pos) (tE X.K c (.or (eb :: es)))) : PE X (.BoolOp .Or (xa :: xb :: xs) pos) (tE X.K c (.or (ea :: eb :: es))) := by
  refine PE.imp (pe_or ha hb) fun σ H Q h => ?_
  obtain ⟨hid, ρ, env, S, hE, hs, h⟩ := h
  rw [evalE, evalOr] at h
  simp only [R.bind_assoc] at h
  refine tE.of hE hs h fun x S1 ρ1 H1 v e1 s1 r1 f1 h1 => ?_
  obtain ⟨b, S2, q, hk⟩ := h1.bind
  obtain ⟨hx, hS⟩ := asBl_ok q
  subst hx hS
  have h2 := hk ρ1 H1 (Ext.refl _ _)
  refine ⟨b, r1.bl_, ?_⟩
  cases b with
  | false =>
    refine ⟨hid, ρ1, env, _, hE.mono e1, s1, ?_⟩
    rw [evalE]
    exact h2.mono fun z S2 ρ2 H2 e q u ru fu => q u ru (fu.anti e1)
  | true => exact h2.pure s1 _ .of_bl trivial
/-- reading a test, as it stands in a test's own form -/
theorem tT_and (f : ∀ env S, evalE c eb env S = (evalE c ea env S).bind fun x S1 => (asBl x S1).bind fun b S2 => .ok (.bl b) S2) {σ : L2.St} {H : Hp} {Q : Bool → Hp → Prop} (h : tT X.K c eb σ H Q) : tT X.K c ea σ H Q := by
  obtain ⟨hid, ρ, env, S, hE, hs, h⟩ := h
  rw [f] at h
  refine tT.of hE hs h fun b S1 ρ1 H1 e1 s1 h1 => ?_
  obtain ⟨b', eb', q⟩ := h1.pure s1
  cases eb'
  exact q
theorem w_and1 (ha : PT X xa (tT X.K c ea)) : PW X (.BoolOp .And [xa] pos) (tT X.K c (.and [ea])) := by
  refine PW.imp (pw_and1 ha) fun σ H Q h => tT_and (fun env S => ?_) h
  simp only [evalE, evalAnd, R.bind_assoc]
  congr
  funext x S1
  congr
  funext b S2
  cases b <;> rfl
theorem w_or1 (ha : PT X xa (tT X.K c ea)) : PW X (.BoolOp .Or [xa] pos) (tT X.K c (.or [ea])) := by
  refine PW.imp (pw_or1 ha) fun σ H Q h => tT_and (fun env S => ?_) h
  simp only [evalE, evalOr, R.bind_assoc]
  congr
  funext x S1
  congr
  funext b S2
  cases b <;> rfl
theorem w_and (ha : PT X xa (tT X.K c ea)) (hb : PW X (.BoolOp .And (xb :: xs) pos) (tT X.K c (.and (eb :: es)))) : PW X (.BoolOp .And (xa :: xb :: xs) pos) (tT X.K c (.and (ea :: eb :: es))) := by
  refine PW.imp (pw_and ha hb) fun σ H Q h => ?_
  obtain ⟨hid, ρ, env, S, hE, hs, h⟩ := h
  rw [evalE, evalAnd] at h
  simp only [R.bind_assoc] at h
  refine tT.of hE hs h fun b S1 ρ1 H1 e1 s1 h2 => ?_
  cases b with
  | true =>
    refine ⟨hid, ρ1, env, _, hE.mono e1, s1, ?_⟩
    rw [evalE]
    exact h2
  | false =>
    obtain ⟨b', eb', q⟩ := h2.pure s1
    cases eb'
    exact q
theorem w_or (ha : PT X xa (tT X.K c ea)) (hb : PW X (.BoolOp .Or (xb :: xs) pos) (tT X.K c (.or (eb :: es)))) : PW X (.BoolOp .Or (xa :: xb :: xs) pos) (tT X.K c (.or (ea :: eb :: es))) := by
  refine PW.imp (pw_or ha hb) fun σ H Q h => ?_
  obtain ⟨hid, ρ, env, S, hE, hs, h⟩ := h
  rw [evalE, evalOr] at h
  simp only [R.bind_assoc] at h
  refine tT.of hE hs h fun b S1 ρ1 H1 e1 s1 h2 => ?_
  cases b with
  | false =>
    refine ⟨hid, ρ1, env, _, hE.mono e1, s1, ?_⟩
    rw [evalE]
    exact h2
  | true =>
    obtain ⟨b', eb', q⟩ := h2.pure s1
    cases eb'
    exact q

/-! ### calls -/
/-- what the def f promises -/
def spF (K : PySem.W.Frag) (cls : Nat → Option Nat) (call : Nat → List Val → Sto → R Val) (f : Nat) : Sp := fun vs H Q E => ∃ hid ρ S xs, SOk K hid ρ H S ∧ RepL K hid ρ H xs vs ∧
  OutS K hid ρ H (call f xs S) (Gv K hid H Q) (fun k _ _ H' => ∀ C, cls k = some C → E (.ref C) none H')
theorem passN {X : Cx} : Passes (L2N.CX X.prog X.w) X E0 := fun _ _ _ _ _ _ _ h => by
  obtain ⟨_, _, _, _, _, _, _, _, _, _, _, _, z⟩ := h
  exact z.elim
theorem call_read {f : Nat} {σ : L2.St} {H : Hp} {Q : VK} (h : tE X.K c (.call f es) σ H Q) : tCall (spF X.K c.cls c.call f) [] E0 (tEs X.K c es) σ H Q := by
  obtain ⟨hid, ρ, env, S, hE, hs, h⟩ := h
  simp only [evalE] at h
  refine tEs.of hE hs h fun ys S1 ρ1 H1 vs e1 s1 r1 h1 => ⟨hid, ρ1, S1, ys, s1, ?_, (h1.mono fun z S2 ρ2 H2 e q u ru fu => q u ru (fu.anti e1)).toS⟩
  rw [List.append_nil]
  exact r1
variable {x : Str} {p : Pos} {fa : Addr} {fd : FuncData} {ps : List Str} {k : Nat}
theorem s_call {f : Nat} (F : FnOk X.prog X.w X.K X.mg X.base (L2N.CX X.prog X.w) k fa fd ps (spF X.K c.cls c.call f)) (hr : Room k X.A) (hg : Gl X x) (hm : X.mg x = some (.ref fa)) (hk : PySem.W.keepIn X.K (.ref fa) = true) (hb : Binds X.K fd ps [])
    (ha : PA X (xa :: xs) (tEs X.K c es)) (hdb : (x == ("__debug__" : Str)) = false) (hp : (xa :: xs).all plainE = true) : PE X (.Call (.Name x p) (xa :: xs) [] pos) (tE X.K c (.call f es)) := by
  have hp' := hp
  simp only [List.all_cons, Bool.and_eq_true] at hp'
  exact PE.imp (pe_call F hr hg hm hk hb .nil passN ha hdb (star_cons hp'.1 _ _) (star_none _ _ _ hp'.2)) fun σ H Q h => call_read h
theorem s_call0 {f : Nat} (F : FnOk X.prog X.w X.K X.mg X.base (L2N.CX X.prog X.w) k fa fd ps (spF X.K c.cls c.call f)) (hr : Room k X.A) (hg : Gl X x) (hm : X.mg x = some (.ref fa)) (hk : PySem.W.keepIn X.K (.ref fa) = true) (hb : Binds X.K fd ps [])
    (hdb : (x == ("__debug__" : Str)) = false) : PE X (.Call (.Name x p) [] [] pos) (tE X.K c (.call f [])) := by
  refine PE.imp (pe_call0 F hr hg hm hk hb .nil passN hdb) fun σ H Q h => ?_
  obtain ⟨hid, ρ, env, S, hE, hs, h⟩ := h
  simp only [evalE, evalEs, R.bind] at h
  exact ⟨hid, ρ, S, [], hs, .nil, h.toS⟩

/-! ### built-ins -/
def biName : Bi → String
  | .len => "len"
  | .all => "all"
  | .any => "any"
  | .list => "list"
  | .tuple => "tuple"
  | .sum => "sum"
  | .min2 => "min"
  | .max2 => "max"
  | .abs => "abs"
  | .int => "int"
  | .str => "str"
  | .minL => "min"
  | .dict => "dict"
  | .maxL => "max"
  | .ptuple => "tuple"
def biTy : Bi → Bool
  | .list => true
  | .tuple => true
  | .int => true
  | .str => true
  | .dict => true
  | .ptuple => true
  | _ => false
theorem bi_boot : ∀ b : Bi, bootBuiltins (PySem.Str.ofString (biName b)) = some (if biTy b then .type (biName b) else .builtin (biName b)) := by
  intro b; cases b <;> decide +kernel
theorem ty_boot : ∀ t : Ty, bootBuiltins (PySem.Str.ofString (tyStr t)) = some (.type (tyStr t)) := by
  intro b; cases b <;> decide +kernel
theorem bi_call (hc : X.calm = true) (hu : X.A.units + 65 < cLine) (b : Bi) (hb : biTy b = false) : CallR X (.builtin (biName b)) (rBi X.K fun S xs => callBi S b xs) := by
  cases b
  · exact cr_len
  · exact cr_allQ hc
  · exact cr_anyQ hc
  · cases hb
  · cases hb
  · exact cr_sumQ hc
  · exact cr_min2Q hc
  · exact cr_max2Q hc
  · exact cr_absQ
  · cases hb
  · cases hb
  · exact cr_minQ hc hu
  · cases hb
  · exact cr_maxQ hc
  · cases hb
theorem bi_type (hc : X.calm = true) (b : Bi) (hb : biTy b = true) : CallR X (.type (biName b)) (rBi X.K fun S xs => callBi S b xs) := by
  cases b
  · cases hb
  · cases hb
  · cases hb
  · exact cr_listQ
  · exact cr_tupleQ
  · cases hb
  · cases hb
  · cases hb
  · cases hb
  · exact cr_intQ
  · exact cr_strQ
  · cases hb
  · exact cr_dictQ hc
  · cases hb
  · exact cr_ptupleQ
theorem s_bi {b : Bi} (hc : X.calm = true) (hu : X.A.units + 65 < cLine) (ex : x = PySem.Str.ofString (biName b)) (hg : Gl X x) (hm : X.mg x = none) (ha : PA X (xa :: xs) (tEs X.K c es)) (hp : (xa :: xs).all plainE = true) (hn : x ≠ "__name__") (hdb : (x == ("__debug__" : Str)) = false) :
    PE X (.Call (.Name x p) (xa :: xs) [] pos) (tE X.K c (.bi b es)) := by
  have hp' := hp
  simp only [List.all_cons, Bool.and_eq_true] at hp'
  have bb := bi_boot b
  rw [← ex] at bb
  have rd : ∀ σ H Q, tE X.K c (.bi b es) σ H Q → tCB (rBi X.K fun S xs => callBi S b xs) (tEs X.K c es) σ H Q := fun σ H Q h => by
    obtain ⟨hid, ρ, env, S, hE, hs, h⟩ := h
    simp only [evalE] at h
    exact tEs.of hE hs h fun ys S1 ρ1 H1 vs e1 s1 r1 h1 => ⟨hid, ρ1, S1, ys, s1, r1, h1.mono fun z S2 ρ2 H2 e q u ru fu => q u ru (fu.anti e1)⟩
  cases ht : biTy b with
  | false =>
    rw [ht] at bb
    exact PE.imp (pe_callB (bi_call hc hu b ht) hg hm bb ha hn hdb (star_cons hp'.1 _ _) (star_none _ _ _ hp'.2)) rd
  | true =>
    rw [ht] at bb
    exact PE.imp (pe_callTy (bi_type hc b ht) hg hm bb ha hn hdb (star_cons hp'.1 _ _) (star_none _ _ _ hp'.2)) rd
/-- tuple(x), also within an except suite -/
theorem s_tupleC {p : Pos} (ex : x = PySem.Str.ofString "tuple") (hg : Gl X x) (hm : X.mg x = none) (ha : PA X (xa :: xs) (tEs X.K c es)) (hp : (xa :: xs).all plainE = true) (hn : x ≠ "__name__") (hdb : (x == ("__debug__" : Str)) = false) :
    PE X (.Call (.Name x p) (xa :: xs) [] pos) (tE X.K c (.bi .tuple es)) := by
  have hp' := hp
  simp only [List.all_cons, Bool.and_eq_true] at hp'
  have bb := bi_boot .tuple
  rw [show PySem.Str.ofString (biName .tuple) = x from ex.symm] at bb
  refine PE.imp (pe_callTy cr_tupleQ hg hm bb ha hn hdb (star_cons hp'.1 _ _) (star_none _ _ _ hp'.2)) fun σ H Q h => ?_
  obtain ⟨hid, ρ, env, S, hE, hs, h⟩ := h
  simp only [evalE] at h
  exact tEs.of hE hs h fun ys S1 ρ1 H1 vs e1 s1 r1 h1 => ⟨hid, ρ1, S1, ys, s1, r1, h1.mono fun z S2 ρ2 H2 e q u ru fu => q u ru (fu.anti e1)⟩
theorem s_isi {t : Ty} {y : Str} {p2 : Pos} (ex : x = PySem.Str.ofString "isinstance") (ey : y = PySem.Str.ofString (tyStr t)) (hg : Gl X x) (hm : X.mg x = none) (hg2 : Gl X y) (hm2 : X.mg y = none) (ha : PE X xa (tE X.K c ea)) (hp : plainE xa = true)
    (hn : x ≠ "__name__") (hdb : (x == ("__debug__" : Str)) = false) (hn2 : y ≠ "__name__") (hdb2 : (y == ("__debug__" : Str)) = false) :
    PE X (.Call (.Name x p) [xa, .Name y p2] [] pos) (tE X.K c (.isi t ea)) := by
  have b1 : bootBuiltins x = some (.builtin "isinstance") := by rw [ex]; decide +kernel
  have b2 := ty_boot t
  rw [← ey] at b2
  refine PE.imp (pe_callB (cr_isQ (t := t)) hg hm b1 (pa_cons ha (pa_cons (pe_bltn hg2 hm2 b2 (v := .ty (tyStr t)) rfl hn2 hdb2) pa_nil (star_cons rfl _ _)) (star_cons hp _ _)) hn hdb (star_cons hp _ _) (star_none _ _ _ rfl)) fun σ H Q h => ?_
  obtain ⟨hid, ρ, env, S, hE, hs, h⟩ := h
  simp only [evalE] at h
  refine tE.of hE hs h fun x S1 ρ1 H1 v e1 s1 r1 f1 h1 => ?_
  obtain ⟨b, S2, q, hk⟩ := h1.bind
  cases hc : isTy S1 t x with
  | none => rw [hc] at q; cases q
  | some b' =>
    rw [hc] at q
    cases q
    exact ⟨hid, ρ1, S1, x, v, b, rfl, s1, r1, hc, (hk ρ1 H1 (Ext.refl _ _)).pure s1 _ .of_bl trivial⟩

/-! ### methods -/
theorem is_list {K : PySem.W.Frag} {hid ρ : List Addr} {H : Hp} {S : Sto} {y : Val} {v : V} {l : List Val} (so : SOk K hid ρ H S) (r : Rep K hid ρ H y v) (e : asList S y = some l) : tyV K "list" v H := by
  obtain ⟨a, vs, ev, q, _⟩ := asList_rep so e r
  subst ev
  exact .inl ⟨rfl, vs, .inl q⟩
def meName : Me → String
  | .count => "count"
  | .index => "index"
  | .tindex => "index"
theorem few_one {cpos : Pos} {e : Expr} {env : PySem.Env} (hp : plainE e = true) : ((backTo cpos (starEach [e] env)).all (fun x => !x.1) && (backToKw cpos (keywordEach [] env)).all (fun x => x.1.isSome)
      && decide ([e].length + ([] : List Keyword).length + (if ([] : List Keyword).isEmpty then 0 else 1) < 30)) = true := by
  rw [star_cons hp]
  rfl
theorem meth_read {K : PySem.W.Frag} {ρb : List Addr} {e : E} {eo ea : E} {r : V → List V → Hp → VK → Prop} {f : Val → Val → Sto → R Val} {σ : L2.St} {H : Hp} {Q : VK}
    (he : ∀ env S, evalE c e env S = (evalE c eo env S).bind fun x S1 => (R.of (asList S1 x) S1).bind fun _ S1 => (evalE c ea env S1).bind fun v S2 => f x v.settle S2)
    (k : ∀ hid ρ H S x y v w Q, SOk K hid ρ H S → Rep K hid ρ H x v → y.st = true → Rep K hid ρ H y w → Out K hid ρ H (f x y S) (Gv K hid H Q) → r v [w] H Q)
    (h : tE K c e σ H Q) : tBM K "list" r (tE K c eo) (tCons (tE K c ea) tNil) σ H Q := by
  obtain ⟨hid, ρ, env, S, hE, hs, h⟩ := h
  rw [he] at h
  refine tE.of hE hs h fun x S1 ρ1 H1 v e1 s1 r1 f1 h1 => ?_
  obtain ⟨l, S2, q, hk⟩ := h1.bind
  cases hl : asList S1 x with
  | none => rw [hl] at q; cases q
  | some l' =>
    rw [hl] at q
    cases q
    have h2 := hk ρ1 H1 (Ext.refl _ _)
    refine ⟨is_list s1 r1 hl, ?_⟩
    refine tE.of (hE.mono e1) s1 h2 fun y S3 ρ3 H3 w e3 s3 r3 f3 h3 => ?_
    exact k hid ρ3 H3 S3 x y.settle v w Q s3 (Rep.mono e3 x v r1) (st_settle y) r3.settle (h3.mono fun z S4 ρ4 H4 e q u ru fu => q u ru (fu.anti (e1.trans e3)))
/-- the call of a method of a tuple without a dict -/
def tBP (K : PySem.W.Frag) (r : V → List V → Hp → VK → Prop) (to : TE) (t : TA) : TE := fun σ H Q => to σ H fun x H1 => (∃ a vs, x = .ref a ∧ PlainT H1 a vs) ∧ t σ H1 fun xs H2 => r x xs H2 Q
theorem pe_bmP {o e : Expr} {es : List Expr} {to : TE} {t : TA} {name : Str} {apos cpos : Pos} {id : String} {r : V → List V → Hp → VK → Prop} (slot : Slot "tuple" name id) (hty : typeOf (.builtin id) = pure (.type "method_descriptor")) (hm : MtR X id r) (ho : PE X o to) (ha : PA X (e :: es) t)
    (hbase : attributeBase o name X.env (eval o X.env) = eval o X.env)
    (hfew : ((backTo cpos (starEach (e :: es) X.env)).all (fun x => !x.1) && (backToKw cpos (keywordEach [] X.env)).all (fun x => x.1.isSome) && decide ((e :: es).length + ([] : List Keyword).length + (if ([] : List Keyword).isEmpty then 0 else 1) < 30)) = true)
    (hline : (apos.endLine == cpos.line) = true) (hs : starEach (e :: es) X.env = (false, eval e X.env) :: starEach es X.env) (hplain : (backTo cpos (starEach es X.env)).any (·.1) = false) :
    PE X (.Call (.Attribute o name apos) (e :: es) [] cpos) (tBP X.K r to t) := by
  refine ⟨fun pins s σ H Q I h => wpAny_Call_method_late hbase hfew hline rfl (thn (ho.run pins s σ H _ I h) fun v s1 z => ?_)⟩
  obtain ⟨x, H1, I1, r1, ⟨a, vs, ex, ob, ho1, hd⟩, q1⟩ := z
  subst ex
  have r1' := r1
  cases r1
  obtain ⟨g1, _, its, _, o2, g2, hc, _⟩ := I1.hok a _ ho1
  rw [g1] at g2
  cases g2
  refine ⟨"tuple", id, PySem.F.plainAttrs_tuple, slot, hty, ⟨ob, g1, hc⟩, fun b eb => ⟨ob, by cases eb; exact g1, hd⟩, ?_⟩
  have A1 := ha.run cpos pins s1 σ H1 _ I1 q1
  rw [hs] at A1 ⊢
  exact Calls.callWith_builtin (by show (false || (backTo cpos (starEach es X.env)).any (·.1)) = false; rw [hplain]; rfl) (Calls.evalArgs_plain (thn A1 fun us s2 z => by
    obtain ⟨ws, H2, I2, r2, q2⟩ := z
    exact hm pins s2 σ H2 _ ws _ us Q I2 r1' r2 q2))
theorem meth_readP {K : PySem.W.Frag} {e eo ea : E} {r : V → List V → Hp → VK → Prop} {f : Val → Val → Sto → R Val} {σ : L2.St} {H : Hp} {Q : VK}
    (he : ∀ env S, evalE c e env S = (evalE c eo env S).bind fun x S1 => (R.of (asPt x) S1).bind fun _ S1 => (evalE c ea env S1).bind fun v S2 => f x v.settle S2)
    (k : ∀ hid ρ H S x y v w Q, SOk K hid ρ H S → Rep K hid ρ H x v → y.st = true → Rep K hid ρ H y w → Out K hid ρ H (f x y S) (Gv K hid H Q) → r v [w] H Q)
    (h : tE K c e σ H Q) : tBP K r (tE K c eo) (tCons (tE K c ea) tNil) σ H Q := by
  obtain ⟨hid, ρ, env, S, hE, hs, h⟩ := h
  rw [he] at h
  refine tE.of hE hs h fun x S1 ρ1 H1 v e1 s1 r1 f1 h1 => ?_
  obtain ⟨l, S2, q, hk⟩ := h1.bind
  cases hl : asPt x with
  | none => rw [hl] at q; cases q
  | some l' =>
    rw [hl] at q
    cases q
    have h2 := hk ρ1 H1 (Ext.refl _ _)
    have ty : ∃ a vs, v = .ref a ∧ PlainT H1 a vs := by
      cases x <;> simp only [asPt] at hl <;> try (cases hl; done)
      simp only [Rep] at r1
      obtain ⟨a, vs, ea, h0, _⟩ := r1
      exact ⟨a, vs, ea, h0⟩
    refine ⟨ty, ?_⟩
    refine tE.of (hE.mono e1) s1 h2 fun y S3 ρ3 H3 w e3 s3 r3 f3 h3 => ?_
    exact k hid ρ3 H3 S3 x y.settle v w Q s3 (Rep.mono e3 x v r1) (st_settle y) r3.settle (h3.mono fun z S4 ρ4 H4 e q u ru fu => q u ru (fu.anti (e1.trans e3)))
variable {apos : Pos} {xo : Expr} {eo : E} {nm : Str}
theorem s_meth {m : Me} (hu : X.A.units + 65 < cLine) (en : nm = PySem.Str.ofString (meName m)) (ho : PE X xo (tE X.K c eo)) (ha : PE X xa (tE X.K c ea)) (hp : plainE xa = true) (hb : plainO xo = true) (hl : (apos.endLine == pos.line) = true) :
    PE X (.Call (.Attribute xo nm apos) [xa] [] pos) (tE X.K c (.meth m eo ea)) := by
  have A := pa_cons ha (pa_nil (X := X)) (star_cons hp _ _)
  have rd : (∀ S x, recOf S m x = asList S x) → ∀ σ H Q, tE X.K c (.meth m eo ea) σ H Q → tBM X.K "list" (rMe X.K m) (tE X.K c eo) (tCons (tE X.K c ea) tNil) σ H Q := fun hr σ H Q h =>
    meth_read (ρb := []) (f := fun x y S => R.of (callMe S m x [y]) S) (fun env S => by simp only [evalE, hr]) (fun hid ρ H S x y v w Q s r1 st r2 o => ⟨hid, ρ, S, x, [y], s, r1, .cons ⟨st, r2⟩ .nil, o⟩) h
  cases m with
  | count =>
    subst en
    exact PE.imp (pe_bm PySem.F.plainAttrs_list PySem.F.slot_list_count PySem.F.type_list_count mt_countQ ho A (plain_base hb _ _) (few_one hp) hl (star_cons hp _ _) (star_none _ _ _ rfl)) (rd fun _ _ => rfl)
  | index =>
    subst en
    exact PE.imp (pe_bm PySem.F.plainAttrs_list PySem.F.slot_list_index PySem.F.type_list_index (mt_indexQ hu) ho A (plain_base hb _ _) (few_one hp) hl (star_cons hp _ _) (star_none _ _ _ rfl)) (rd fun _ _ => rfl)
  | tindex =>
    subst en
    exact PE.imp (pe_bmP PySem.F.slot_tuple_index PySem.F.type_tuple_index mt_tindexQ ho A (plain_base hb _ _) (few_one hp) hl (star_cons hp _ _) (star_none _ _ _ rfl)) fun σ H Q h =>
      meth_readP (f := fun x y S => R.of (callMe S .tindex x [y]) S) (fun env S => by simp only [evalE, recOf]) (fun hid ρ H S x y v w Q s r1 st r2 o => ⟨hid, ρ, S, x, [y], s, r1, .cons ⟨st, r2⟩ .nil, o⟩) h
theorem s_append (en : nm = PySem.Str.ofString "append") (ho : PE X xo (tE X.K c eo)) (ha : PE X xa (tE X.K c ea)) (hp : plainE xa = true) (hb : plainO xo = true) (hl : (apos.endLine == pos.line) = true) :
    PE X (.Call (.Attribute xo nm apos) [xa] [] pos) (tE X.K c (.append eo ea)) := by
  have A := pa_cons ha (pa_nil (X := X)) (star_cons hp _ _)
  subst en
  exact PE.imp (pe_bm PySem.F.plainAttrs_list PySem.F.slot_list_append PySem.F.type_list_append (mt_appQ (b := c.base)) ho A (plain_base hb _ _) (few_one hp) hl (star_cons hp _ _) (star_none _ _ _ rfl)) fun σ H Q h =>
    meth_read (ρb := []) (f := fun x y S => QE.append c.base S x y) (fun env S => by simp only [evalE]) (fun hid ρ H S x y v w Q s r1 st r2 o => ⟨hid, ρ, S, x, y, w, rfl, s, r1, r2, o⟩) h

/-! ### a cell for a fresh list or dict -/
theorem Ext.give {ρ : List Addr} {H H1 : Hp} {ρ1 : List Addr} {a : Addr} (e : Ext ρ H ρ1 H1) (h : Gone H a) : Ext ρ H (ρ1 ++ [a]) H1 := by
  obtain ⟨new, q, k⟩ := e.more
  refine ⟨⟨new ++ [a], by rw [q, List.append_assoc], fun b hb => ?_⟩, e.keep0, e.there0, e.tups, e.frzs⟩
  rcases List.mem_append.mp hb with hb | hb
  · exact k b hb
  · rw [List.mem_singleton.mp hb]; exact h
theorem s_cell {e : Expr} {ev : E} (h : PE X e (tE X.K c ev)) : PE X e (tE X.K c (.cell ev)) := by
  refine PE.imp h fun σ H Q h => ?_
  obtain ⟨hid, ρ, env, S, hE, hs, h⟩ := h
  simp only [evalE] at h
  obtain ⟨x, S1, q, hk⟩ := h.bind
  refine ⟨hid, ρ, env, S, hE, hs, ?_⟩
  rw [q]
  intro ρ1 H1 e1 s1 v r fr
  have hk := hk ρ H (Ext.refl _ _)
  unfold newCell at hk
  split at hk
  · rename_i xs
    obtain ⟨a, ev, h0, s2⟩ := fr
    subst ev
    refine hk (ρ1 ++ [a]) H1 (e1.give h0) s2 (.ref a) ?_ trivial
    simp only [Rep]
    refine ⟨a, ?_, rfl⟩
    rw [← s1.len, List.getElem?_append_right (Nat.le_refl _)]
    simp
  · rename_i t kvs
    obtain ⟨a, ev, h0, s2⟩ := fr
    subst ev
    refine hk (ρ1 ++ [a]) H1 (e1.give h0) s2 (.ref a) ?_ trivial
    simp only [Rep]
    refine ⟨a, ?_, rfl⟩
    rw [← s1.len, List.getElem?_append_right (Nat.le_refl _)]
    simp
  · exact hk.elim
end
end QE

set_option Elab.async false
set_option linter.all false
set_option maxRecDepth 100000
set_option maxHeartbeats 1000000
/-! enumerate(a tuple). -/
namespace PySem
open Sem (wp)
theorem meets_en1 {u : Value} {ob : Obj} {Hh : Heap → Prop} (B : Begins u ob Hh) :
    Meets (Builtin.«enumerate.__new__» ⟨[.type "enumerate", u], []⟩) (fun _ R z => Hh z.heap ∧
      R (.ok (.ret (.ref (z.heap.push ob).objs.size))) { z with heap := (z.heap.push ob).push { cls := .type "enumerate", data := .fields #[.none, .bool false, .ref z.heap.objs.size, rawInt 0, .none, .none] } }) :=
  .of_wp fun pr wo Ar Rr z hz => by
    obtain ⟨hp, g, d, tk, os⟩ := z; obtain ⟨ha, hz⟩ := hz
    have hsub := sub_enumerate
    have it1 : ∀ {A' : Around} {E : Value → Shared → Prop} {Q : Value → Shared → Prop}, Q (.ref hp.objs.size) ⟨hp.push ob, g, d, tk, os⟩ → wpAny (model pr wo) A' (pyIter u) Q E ⟨hp, g, d, tk, os⟩ :=
      fun q => B.iter pr wo _ _ ⟨hp, g, d, tk, os⟩ _ ha q
    wp_walk using it1
    refine wpAny_stack_any fun st => wpAny_pure ?_
    split
    · rename_i c _ _ _ _ _
      cases (c == Value.type "enumerate")
      · wp_walk using it1
        exact ⟨_, rfl, hz⟩
      · wp_walk using it1
        exact ⟨_, rfl, hz⟩
    · wp_walk using it1
      exact ⟨_, rfl, hz⟩
theorem call_en1 {prog : Program} {w : World} {A : Around} {E : Value → Shared → Prop} {z : Shared} {u : Value} {ob : Obj} {Hh : Heap → Prop} {Q : Value → Shared → Prop} (B : Begins u ob Hh) (ha : Hh z.heap)
    (k : ∀ h', IsEnum h' (z.heap.objs.size + 1) z.heap.objs.size 0 .none → h'.get? z.heap.objs.size = some ob → (∀ c r, z.heap.get? c = some r → h'.get? c = some r) → Q (.ref (z.heap.objs.size + 1)) { z with heap := h' }) :
    wpAny (model prog w) A (call (.type "enumerate") [u]) Q E z := by
  refine callType_new F.called_enumerate (by decide) (F.typeCall_enumerate_1 _) (F.newCall_enumerate_1 _) (fun obj => F.args_object_init_2 obj _) F.entry_enumerate_new
    (meets_en1 B) ⟨ha, ?_⟩
  have hz : (z.heap.push ob).objs.size = z.heap.objs.size + 1 := Heap.size_push ..
  show _ ∧ _
  rw [hz]
  have he : IsEnum ((z.heap.push ob).push { cls := .type "enumerate", data := .fields #[.none, .bool false, .ref z.heap.objs.size, rawInt 0, .none, .none] }) (z.heap.objs.size + 1) z.heap.objs.size 0 .none := by
    have := Heap.get?_push_size (z.heap.push ob) (o := { cls := .type "enumerate", data := .fields #[.none, .bool false, .ref z.heap.objs.size, rawInt 0, .none, .none] }) rfl
    rw [hz] at this; exact this
  exact ⟨⟨_, he, rfl⟩, k _ he (Heap.get?_push_of_some _ (Heap.get?_push_size _ B.free)) fun c r x => Heap.get?_push_of_some _ (Heap.get?_push_of_some _ x)⟩
end PySem
namespace QE
open PySem PySem.Spec PyProof.Rows L2
/-- the tuple at a, each item in a new pair -/
def IteT (K : PySem.W.Frag) (a : Addr) : It :=
  ⟨fun i H => ∃ (ys : List V) (y : V), SqT K H a ys ∧ ys[i]? = some y, fun i H v H' => ∃ T y, v = .ref T ∧ H T = none ∧ H' = upd H T (.tup [.int (i : Nat), y]) ∧ ∀ ys, SqT K H a ys → ys[i]? = some y,
    fun i H => ∃ ys : List V, SqT K H a ys ∧ ys.length = i⟩
theorem turn_enumT {P : Program} {w : World} {K : PySem.W.Frag} {elts : List Expr} {kk : Nat} {tpos : Pos} (a e it : Addr) :
    Turn P w K (.Tuple elts kk tpos) (IteT K a) [e, it] e (fun i h => (∃ old, IsEnum h e it ((i : Nat) : Int) old) ∧ h.IsTupleIter it a i ∧ e ≠ it ∧ a ≠ it ∧ e ≠ a) where
  mem := by simp
  obj := fun i h st b hb => by
    obtain ⟨⟨old, he⟩, ⟨o, ho, hc, hd⟩, _⟩ := st
    have e' : b = e ∨ b = it := by simpa using hb
    rcases e' with z | z
    · rw [z]; exact ⟨_, he, fun v q => nomatch q⟩
    · rw [z]; exact ⟨o, ho, fun v q => by rw [hd] at q; cases q⟩
  keep := fun i h h' st k => let ⟨⟨old, he⟩, hi, hne⟩ := st; ⟨⟨old, k e (by simp) _ he⟩, hi.at fun o q => k it (by simp) o q, hne⟩
  item := by
    intro X hP hw hK hc i pins s σ H E I hf st hg
    subst hP hw hK
    obtain ⟨⟨old, he⟩, hit, hne, hai, hea⟩ := st
    obtain ⟨ys, y, hq, hy⟩ := hg
    obtain ⟨its, rv, p, hz⟩ := I.tuple hq
    have p : s.heap.IsTuple a its.toArray := p
    obtain ⟨u, hu, ru⟩ := rv.get hy
    have hel : e < s.heap.objs.size := Heap.lt_size he
    have hil : it < s.heap.objs.size := by obtain ⟨_, q, _⟩ := hit; exact Heap.lt_size q
    have lt : i < its.toArray.size := by
      have := (List.getElem?_eq_some_iff.mp hu).1
      simpa using this
    refine wpAny_pyNext_enum_itemD (Draws.tuple (A := X.A.in1) (I.ok.hd hc) it a hai its.toArray) he ⟨hit, p⟩ lt hne (by simp [hne, hea]) fun x h' tk hP ho hS hT hsz hk => ?_
    have ex : x = u := by
      have : its.toArray[i]? = some u := by simpa using hu
      rw [this] at hP
      exact (Option.some.inj hP).symm
    subst ex
    refine ⟨_, rfl, wpAny_letOwnedTupleGo_enum (s := { s with heap := h', toks := tk + 1 }) ho fun h'' he' sb => ?_⟩
    have hT2 : h''.get? s.heap.objs.size = some { cls := .type "tuple", data := .seq #[.int i tk, x] } := (sb.2 _ (Nat.ne_of_gt hel)).trans hT
    have new : ObjOk X.prog X.w (upd H s.heap.objs.size (.tup [.int (i : Nat), y])) h'' s.heap.objs.size (.tup [.int (i : Nat), y]) :=
      ⟨by show 2 ≤ sizeLine; decide, [.int i tk, x], .cons ⟨_, rfl⟩ (.cons ru .nil), ⟨_, hT2, rfl, _, rfl⟩⟩
    have I1 : Inv X pins σ (upd H s.heap.objs.size (.tup [.int (i : Nat), y])) { s with heap := h'', toks := tk + 1 } :=
      I.turnedNew (ch := [e, it]) (fun c oc hb q => (sb.2 c (fun z => hb (by simp [z]))).trans (hk c oc (fun z => hb (by simp [z])) (fun z => hb (by simp [z])) q)) hf (Nat.le_refl _) new
    refine ⟨.ref s.heap.objs.size, _, I1, rfl, ⟨_, y, rfl, I.hok.fresh (Nat.le_refl _), rfl, fun zs hz => by rw [I.tuple_inj hz hq]; exact hy⟩, ⟨⟨x, ?_⟩, hS.1.at fun o q => (sb.2 it (Ne.symm hne)).trans q, hne, hai, hea⟩, fun c hb => ?_⟩
    · have e1 : ((i + 1 : Nat) : Int) = (i : Int) + 1 := by omega
      rw [e1]; exact he'
    · have hb' : c < s.heap.objs.size := by
        have e' : c = e ∨ c = it := by simpa using hb
        rcases e' with z | z
        · rw [z]; exact hel
        · rw [z]; exact hil
      rw [upd_ne (Nat.ne_of_lt hb')]
      exact (hf c hb).1
  done := by
    intro X hP hw hK hc i pins s σ H E I hf st hg
    subst hP hw hK
    obtain ⟨⟨old, he⟩, hit, hne, hai, hea⟩ := st
    obtain ⟨ys, hq, hx⟩ := hg
    obtain ⟨its, rv, p, hz⟩ := I.tuple hq
    have p : s.heap.IsTuple a its.toArray := p
    obtain ⟨f0, f1, f2, f3, f4, f5⟩ := hf it (by simp)
    have hl := rv.length
    obtain ⟨oi, qi, ci, di⟩ := id hit
    have ei : i = its.toArray.size := by simp; omega
    subst ei
    exact wpAny_pyNext_enum_endD (Draws.tuple (A := X.A.in1) (I.ok.hd hc) it a hai its.toArray) he ⟨hit, p⟩ fun h' eb => ⟨rfl, I.turned (t' := s.toks) (fun b o hb q => eb b o hb q) f0 f1 f3 f4 f5⟩
  self := fun A i s Q E st h => let ⟨⟨_, he⟩, _⟩ := st; wpAny_pyIter_enum he h
def iEn (K : PySem.W.Frag) (ta : TA) : TI := fun σ H R => ta σ H fun vs H1 => ∃ a xs, vs = [.ref a] ∧ ((SqL K H1 a xs ∧ R (Ite K a) H1) ∨ (SqT K H1 a xs ∧ R (IteT K a) H1))
theorem pi_en {X : Cx} {e : Expr} {ta : TA} {p pos tpos : Pos} {elts : List Expr} {kk : Nat} (hg : Gl X "enumerate") (hm : X.mg "enumerate" = none) (ha : PA X [e] ta) (hs : starEach [e] X.env = [(false, eval e X.env)]) :
    PI X (.Tuple elts kk tpos) (.Call (.Name "enumerate" p) [e] [] pos) (iEn X.K ta) := by
  refine ⟨fun pins s σ H R I h => ?_⟩
  refine Call_ (ld_blt I hg hm boot_enumerate (PyProof.Rows.callWith_type1 (thn (ha.run pos pins s σ H _ I h) fun us s1 ⟨vs, H1, I1, r1, q1⟩ => ?_) hs rfl))
  obtain ⟨a, xs, ex, q1⟩ := q1
  subst ex
  cases r1 with
  | cons r rr =>
    cases rr
    cases r
    have fr : ∀ b, b ∈ [s1.heap.objs.size + 1, s1.heap.objs.size] → FpOk X pins H1 b := fun b hb => by
      have e' : b = s1.heap.objs.size + 1 ∨ b = s1.heap.objs.size := by simpa using hb
      have hle : s1.heap.objs.size ≤ b := by
        rcases e' with z | z
        · rw [z]; exact Nat.le_add_right _ _
        · rw [z]; exact Nat.le_refl _
      exact I1.fpOk hle (I1.hok.fresh hle)
    rcases q1 with ⟨hq, q⟩ | ⟨hq, q⟩
    · obtain ⟨its, rv, p', hz⟩ := I1.list hq
      refine call_enumerate_list p'.isList fun h' he hit hsz hk => wpAny_pyIter_enum he ?_
      exact ⟨s1.heap.objs.size + 1, [s1.heap.objs.size + 1, s1.heap.objs.size], _, _, H1, rfl, I1.kept (t' := s1.toks) hk, turn_enum a (s1.heap.objs.size + 1) s1.heap.objs.size, ⟨⟨.none, he⟩, hit, Nat.succ_ne_self _⟩, fr, q⟩
    · obtain ⟨its, rv, p', hz⟩ := I1.tuple hq
      have p' : s1.heap.IsTuple a its.toArray := p'
      obtain ⟨oa, ha', _⟩ := id p'
      have la := Heap.lt_size ha'
      refine call_en1 (begins_tuple a its.toArray) p' fun h' he hit hk => wpAny_pyIter_enum he ?_
      exact ⟨s1.heap.objs.size + 1, [s1.heap.objs.size + 1, s1.heap.objs.size], _, _, H1, rfl, I1.kept (t' := s1.toks) hk, turn_enumT a (s1.heap.objs.size + 1) s1.heap.objs.size,
        ⟨⟨.none, he⟩, ⟨_, hit, rfl, rfl⟩, Nat.succ_ne_self _, Nat.ne_of_lt la, Nat.ne_of_gt (Nat.lt_succ_of_lt la)⟩, fr, q⟩
end QE

set_option Elab.async false
set_option linter.all false
set_option maxRecDepth 10000
set_option maxHeartbeats 1000000
/-! What a loop walks: sources. Hidden addresses. -/
namespace QE
open PySem PySem.Spec PyProof.Rows L2
section
variable {K : PySem.W.Frag} {hid ρ : List Addr} {H : Hp} {D : Addr}
/-! ### one address more is hidden -/
theorem ne_D (h : H D = none) {a : Addr} {u : HO} (q : H a = some u) : a ≠ D := fun z => by rw [z, h] at q; cases q
mutual
theorem Rep.hide (hd : H D = none) : ∀ (x : Val) (v : V), Rep K hid ρ H x v → Rep K (D :: hid) ρ H x v
  | .non, v, h => by simp only [Rep] at h ⊢; exact h
  | .bl b, v, h => by simp only [Rep] at h ⊢; exact h
  | .int i, v, h => by simp only [Rep] at h ⊢; exact h
  | .str s, v, h => by simp only [Rep] at h ⊢; exact h
  | .tup xs, v, h => by
    simp only [Rep] at h ⊢
    obtain ⟨a, vs, h1, h2, h3⟩ := h
    exact ⟨a, vs, h1, h2, RepL.hide hd xs vs h3⟩
  | .lst f xs, v, h => by
    simp only [Rep] at h ⊢
    obtain ⟨a, vs, h1, h2, h3, h4, h5⟩ := h
    obtain ⟨u, hu, _⟩ := rd_there ntL h2.rd
    exact ⟨a, vs, h1, h2, h3, by simp [h4, ne_D hd hu], RepL.hide hd xs vs h5⟩
  | .dic f true kvs, v, h => by
    simp only [Rep] at h ⊢
    obtain ⟨a, vs, h1, h2, h3, h4, h5⟩ := h
    obtain ⟨u, hu, _⟩ := rd_there ntT h2.rd
    exact ⟨a, vs, h1, h2, h3, by simp [h4, ne_D hd hu], RepT.hide hd kvs vs h5⟩
  | .dic f false kvs, v, h => by
    simp only [Rep] at h ⊢
    obtain ⟨a, vs, h1, h2, h3, h4, h5⟩ := h
    obtain ⟨u, hu, _⟩ := rd_there ntK h2.rd
    exact ⟨a, vs, h1, h2, h3, by simp [h4, ne_D hd hu], RepK.hide hd kvs vs h5⟩
  | .ref n, v, h => by simp only [Rep] at h ⊢; exact h
  | .kls ns, v, h => by simp only [Rep] at h ⊢; exact h
  | .fn _ _, v, h => by simp only [Rep] at h ⊢; exact h
  | .exn _ _, v, h => by simp only [Rep] at h ⊢; exact h
  | .ptup xs, v, h => by
    simp only [Rep] at h ⊢
    obtain ⟨a, vs, h1, h2, h3⟩ := h
    exact ⟨a, vs, h1, h2, RepL.hide hd xs vs h3⟩
theorem RepL.hide (hd : H D = none) : ∀ (xs : List Val) (vs : List V), RepL K hid ρ H xs vs → RepL K (D :: hid) ρ H xs vs
  | [], vs, h => by simp only [RepL] at h ⊢; exact h
  | x :: xs, vs, h => by
    simp only [RepL] at h ⊢
    obtain ⟨v, r, h1, h2, h3⟩ := h
    exact ⟨v, r, h1, ⟨h2.1, Rep.hide hd x v h2.2⟩, RepL.hide hd xs r h3⟩
theorem RepK.hide (hd : H D = none) : ∀ (xs : List (Val × Val)) (ws : List (L2.Key × V)), RepK K hid ρ H xs ws → RepK K (D :: hid) ρ H xs ws
  | [], vs, h => by simp only [RepK] at h ⊢; exact h
  | (k, x) :: xs, vs, h => by
    simp only [RepK] at h ⊢
    obtain ⟨v, r, h1, h4, h2, h3⟩ := h
    exact ⟨v, r, h1, h4, ⟨h2.1, Rep.hide hd x v h2.2⟩, RepK.hide hd xs r h3⟩
theorem RepT.hide (hd : H D = none) : ∀ (xs : List (Val × Val)) (ws : List (List L2.Key × V)), RepT K hid ρ H xs ws → RepT K (D :: hid) ρ H xs ws
  | [], vs, h => by simp only [RepT] at h ⊢; exact h
  | (k, x) :: xs, vs, h => by
    simp only [RepT] at h ⊢
    obtain ⟨v, r, h1, h4, h2, h3⟩ := h
    exact ⟨v, r, h1, h4, ⟨h2.1, Rep.hide hd x v h2.2⟩, RepT.hide hd xs r h3⟩
end
mutual
theorem Rep.seen : ∀ (x : Val) (v : V), Rep K (D :: hid) ρ H x v → Rep K hid ρ H x v
  | .non, v, h => by simp only [Rep] at h ⊢; exact h
  | .bl b, v, h => by simp only [Rep] at h ⊢; exact h
  | .int i, v, h => by simp only [Rep] at h ⊢; exact h
  | .str s, v, h => by simp only [Rep] at h ⊢; exact h
  | .tup xs, v, h => by
    simp only [Rep] at h ⊢
    obtain ⟨a, vs, h1, h2, h3⟩ := h
    exact ⟨a, vs, h1, h2, RepL.seen xs vs h3⟩
  | .lst f xs, v, h => by
    simp only [Rep] at h ⊢
    obtain ⟨a, vs, h1, h2, h3, h4, h5⟩ := h
    exact ⟨a, vs, h1, h2, h3, fun z => h4 (List.mem_cons_of_mem _ z), RepL.seen xs vs h5⟩
  | .dic f true kvs, v, h => by
    simp only [Rep] at h ⊢
    obtain ⟨a, vs, h1, h2, h3, h4, h5⟩ := h
    exact ⟨a, vs, h1, h2, h3, fun z => h4 (List.mem_cons_of_mem _ z), RepT.seen kvs vs h5⟩
  | .dic f false kvs, v, h => by
    simp only [Rep] at h ⊢
    obtain ⟨a, vs, h1, h2, h3, h4, h5⟩ := h
    exact ⟨a, vs, h1, h2, h3, fun z => h4 (List.mem_cons_of_mem _ z), RepK.seen kvs vs h5⟩
  | .ref n, v, h => by simp only [Rep] at h ⊢; exact h
  | .kls ns, v, h => by simp only [Rep] at h ⊢; exact h
  | .fn _ _, v, h => by simp only [Rep] at h ⊢; exact h
  | .exn _ _, v, h => by simp only [Rep] at h ⊢; exact h
  | .ptup xs, v, h => by
    simp only [Rep] at h ⊢
    obtain ⟨a, vs, h1, h2, h3⟩ := h
    exact ⟨a, vs, h1, h2, RepL.seen xs vs h3⟩
theorem RepL.seen : ∀ (xs : List Val) (vs : List V), RepL K (D :: hid) ρ H xs vs → RepL K hid ρ H xs vs
  | [], vs, h => by simp only [RepL] at h ⊢; exact h
  | x :: xs, vs, h => by
    simp only [RepL] at h ⊢
    obtain ⟨v, r, h1, h2, h3⟩ := h
    exact ⟨v, r, h1, ⟨h2.1, Rep.seen x v h2.2⟩, RepL.seen xs r h3⟩
theorem RepK.seen : ∀ (xs : List (Val × Val)) (ws : List (L2.Key × V)), RepK K (D :: hid) ρ H xs ws → RepK K hid ρ H xs ws
  | [], vs, h => by simp only [RepK] at h ⊢; exact h
  | (k, x) :: xs, vs, h => by
    simp only [RepK] at h ⊢
    obtain ⟨v, r, h1, h4, h2, h3⟩ := h
    exact ⟨v, r, h1, h4, ⟨h2.1, Rep.seen x v h2.2⟩, RepK.seen xs r h3⟩
theorem RepT.seen : ∀ (xs : List (Val × Val)) (ws : List (List L2.Key × V)), RepT K (D :: hid) ρ H xs ws → RepT K hid ρ H xs ws
  | [], vs, h => by simp only [RepT] at h ⊢; exact h
  | (k, x) :: xs, vs, h => by
    simp only [RepT] at h ⊢
    obtain ⟨v, r, h1, h4, h2, h3⟩ := h
    exact ⟨v, r, h1, h4, ⟨h2.1, Rep.seen x v h2.2⟩, RepT.seen xs r h3⟩
end
theorem ObRep.hide (hd : H D = none) {a : Addr} : ∀ {o : Ob}, ObRep K hid ρ H a o → ObRep K (D :: hid) ρ H a o
  | .lst xs, ⟨vs, h1, h2⟩ => ⟨vs, h1, RepL.hide hd xs vs h2⟩
  | .dic true xs, ⟨vs, h1, h2⟩ => ⟨vs, h1, RepT.hide hd xs vs h2⟩
  | .dic false xs, ⟨vs, h1, h2⟩ => ⟨vs, h1, RepK.hide hd xs vs h2⟩
  | .tbl _ _, h => h
theorem ObRep.seen {a : Addr} : ∀ {o : Ob}, ObRep K (D :: hid) ρ H a o → ObRep K hid ρ H a o
  | .lst xs, ⟨vs, h1, h2⟩ => ⟨vs, h1, RepL.seen xs vs h2⟩
  | .dic true xs, ⟨vs, h1, h2⟩ => ⟨vs, h1, RepT.seen xs vs h2⟩
  | .dic false xs, ⟨vs, h1, h2⟩ => ⟨vs, h1, RepK.seen xs vs h2⟩
  | .tbl _ _, h => h
theorem SOk.hide {S : Sto} {o : HO} (s : SOk K hid ρ H S) (hd : H D = none) (no : NT o := by intro _ z; cases z) : SOk K (D :: hid) ρ (upd H D o) S := by
  have s' := s.new hd (o := o)
  refine ⟨s.len, s.nd, fun a ha => ?_, fun a ha => ?_, fun n ob q => ?_⟩
  · intro z
    rcases List.mem_cons.mp z with z | z
    · exact s.new1 hd (z ▸ ha)
    · exact s.apart a ha z
  · rcases List.mem_cons.mp ha with z | z
    · subst z; exact ⟨o, upd_same, no⟩
    · exact s'.hidd a z
  · obtain ⟨a, h1, h2⟩ := s.ob n ob q
    exact ⟨a, h1, (h2.hide hd).mono (Ext.new hd) (upd_ne fun z => s.new1 hd (z ▸ List.mem_of_getElem? h1))⟩
theorem SOk.seen {S : Sto} (s : SOk K (D :: hid) ρ H S) : SOk K hid ρ H S := by
  refine ⟨s.len, s.nd, fun a ha z => s.apart a ha (List.mem_cons_of_mem _ z), fun a ha => s.hidd a (List.mem_cons_of_mem _ ha), fun n ob q => ?_⟩
  obtain ⟨a, h1, h2⟩ := s.ob n ob q
  exact ⟨a, h1, h2.seen⟩
theorem ERep.hide {env : Env} {σ : L2.St} {o : HO} (h : ERep K hid ρ H env σ) (hd : H D = none) : ERep K (D :: hid) ρ (upd H D o) env σ := by
  refine ⟨h.len, fun i x q => ?_⟩
  obtain ⟨v, a, st, b⟩ := h.at_ i x q
  exact ⟨v, a, st, Rep.mono (Ext.new hd) x v (Rep.hide hd x v b)⟩
theorem ERep.seen {env : Env} {σ : L2.St} (h : ERep K (D :: hid) ρ H env σ) : ERep K hid ρ H env σ := by
  refine ⟨h.len, fun i x q => ?_⟩
  obtain ⟨v, a, st, b⟩ := h.at_ i x q
  exact ⟨v, a, st, Rep.seen x v b⟩

/-! ### what is walked -/
inductive WalkOk (K : PySem.W.Frag) (hid ρ : List Addr) (H : Hp) : List Val → It → Prop
  | list {a : Addr} {vs : List V} {xs : List Val} (h : Rd H a (.lst vs)) (ha : a ∉ ρ) (r : RepL K hid ρ H xs vs) : WalkOk K hid ρ H xs (Itl K a)
  | tup {a : Addr} {vs : List V} {xs : List Val} (h : SqT K H a vs) (r : RepL K hid ρ H xs vs) : WalkOk K hid ρ H xs (Itt K a)
  | range {lo : Int} {n : Nat} : WalkOk K hid ρ H (rangeV lo n) (Itr lo n)
  | str {s : List Nat} : WalkOk K hid ρ H (s.map fun c => .str [c]) (Its (strOf s))
  | enumL {a : Addr} {vs : List V} {xs : List Val} (h : Rd H a (.lst vs)) (ha : a ∉ ρ) (r : RepL K hid ρ H xs vs) : WalkOk K hid ρ H (enumFrom 0 xs) (Ite K a)
  | enumT {a : Addr} {vs : List V} {xs : List Val} (h : SqT K H a vs) (r : RepL K hid ρ H xs vs) : WalkOk K hid ρ H (enumFrom 0 xs) (IteT K a)
  | zipL {a b : Addr} {vs ws : List V} {xs ys : List Val} (h : Rd H a (.lst vs)) (ha : a ∉ ρ) (r : RepL K hid ρ H xs vs) (h' : Rd H b (.lst ws)) (hb : b ∉ ρ) (r' : RepL K hid ρ H ys ws) : WalkOk K hid ρ H (zipV xs ys) (Itz K a b)
  | zipT {a b : Addr} {vs ws : List V} {xs ys : List Val} (h : SqT K H a vs) (r : RepL K hid ρ H xs vs) (h' : SqT K H b ws) (r' : RepL K hid ρ H ys ws) : WalkOk K hid ρ H (zipV xs ys) (RZ.ItzT K a b)
  | keys {d : Addr} {o : Obj} {ws : List (L2.Key × V)} {kvs : List (Val × Val)} (h : H d = some (.frz o (.dK ws))) (r : RepK K hid ρ H kvs ws) : WalkOk K hid ρ H (kvs.map fun p => p.1) (Itk d o ws)
theorem WalkOk.hide {xs : List Val} {J : It} {o : HO} (h : WalkOk K hid ρ H xs J) (hd : H D = none) : WalkOk K (D :: hid) ρ (upd H D o) xs J := by
  have e : Ext ρ H ρ (upd H D o) := Ext.new hd
  have rl : ∀ {xs : List Val} {vs : List V}, RepL K hid ρ H xs vs → RepL K (D :: hid) ρ (upd H D o) xs vs := fun {xs vs} r => RepL.mono e _ _ (RepL.hide hd xs vs r)
  cases h with
  | list h ha r => exact .list (e.rd ha h) ha (rl r)
  | tup h r => exact .tup (e.sqT h) (rl r)
  | range => exact .range
  | str => exact .str
  | enumL h ha r => exact .enumL (e.rd ha h) ha (rl r)
  | enumT h r => exact .enumT (e.sqT h) (rl r)
  | zipL h ha r h' hb r' => exact .zipL (e.rd ha h) ha (rl r) (e.rd hb h') hb (rl r')
  | zipT h r h' r' => exact .zipT (e.sqT h) (rl r) (e.sqT h') (rl r')
  | keys h r => exact .keys (e.frzs _ _ _ h) (RepK.mono e _ _ (RepK.hide hd _ _ r))
theorem rangeV_len : ∀ (lo : Int) (n : Nat), (rangeV lo n).length = n
  | _, 0 => rfl
  | lo, n + 1 => by simp [rangeV, rangeV_len]
theorem rangeV_get : ∀ (lo : Int) (n i : Nat), i < n → (rangeV lo n)[i]? = some (.int (lo + i))
  | lo, n + 1, 0, _ => by simp [rangeV]
  | lo, n + 1, i + 1, h => by
    simp only [rangeV, List.getElem?_cons_succ]
    rw [rangeV_get (lo + 1) n i (by omega)]
    congr 2
    push_cast
    omega
theorem enumFrom_len : ∀ (n : Nat) (xs : List Val), (enumFrom n xs).length = xs.length
  | _, [] => rfl
  | n, x :: xs => by simp [enumFrom, enumFrom_len]
theorem enumFrom_get : ∀ (n : Nat) (xs : List Val) (i : Nat) (x : Val), xs[i]? = some x → (enumFrom n xs)[i]? = some (.tup [.int ((n + i : Nat) : Int), x])
  | _, [], _, _, h => by simp at h
  | n, y :: xs, 0, x, h => by simp at h; subst h; simp [enumFrom]
  | n, y :: xs, i + 1, x, h => by
    simp only [enumFrom, List.getElem?_cons_succ] at h ⊢
    rw [enumFrom_get (n + 1) xs i x h]
    congr 4
    omega
theorem zipV_len : ∀ (xs ys : List Val), (zipV xs ys).length = min xs.length ys.length
  | [], _ => by simp [zipV]
  | _ :: _, [] => by simp [zipV]
  | x :: xs, y :: ys => by simp only [zipV, List.length_cons, zipV_len xs ys]; omega
theorem zipV_get : ∀ (xs ys : List Val) (i : Nat) (x y : Val), xs[i]? = some x → ys[i]? = some y → (zipV xs ys)[i]? = some (.tup [x, y])
  | [], _, _, _, _, h, _ => by simp at h
  | _ :: _, [], _, _, _, _, h => by simp at h
  | a :: xs, b :: ys, 0, x, y, h1, h2 => by simp at h1 h2; subst h1 h2; simp [zipV]
  | a :: xs, b :: ys, i + 1, x, y, h1, h2 => by
    simp only [zipV, List.getElem?_cons_succ] at h1 h2 ⊢
    exact zipV_get xs ys i x y h1 h2
theorem RepL.nth {xs : List Val} {vs : List V} {i : Nat} {v : V} (r : RepL K hid ρ H xs vs) (h : vs[i]? = some v) : ∃ x, xs[i]? = some x ∧ x.st = true ∧ Rep K hid ρ H x v := by
  have hl := r.length
  have lt := (List.getElem?_eq_some_iff.mp h).1
  have q : xs[i]? = some xs[i] := List.getElem?_eq_getElem (by omega)
  obtain ⟨w, h1, h2⟩ := r.get q
  rw [h] at h1
  cases h1
  exact ⟨_, q, h2⟩
/-- the i-th turn -/
def YR (K : PySem.W.Frag) (hid ρ : List Addr) (H : Hp) (xs : List Val) : Nat → Hp → V → Hp → Prop := fun i H2 v H3 => ∀ ρ2 S, Ext ρ H ρ2 H2 → SOk K hid ρ2 H2 S →
  ∃ x, xs[i]? = some x ∧ Ext ρ2 H2 ρ2 H3 ∧ SOk K hid ρ2 H3 S ∧ x.st = true ∧ Rep K hid ρ2 H3 x v
theorem yr_same {xs ys : List Val} {vs : List V} (r : RepL K hid ρ H ys vs) (f : ∀ (i : Nat) (x : Val), ys[i]? = some x → xs[i]? = some x) {i : Nat} {H2 H3 : Hp} {v : V} (y : H3 = H2 ∧ vs[i]? = some v) : YR K hid ρ H xs i H2 v H3 := by
  intro ρ2 S e s
  obtain ⟨e1, q⟩ := y
  subst e1
  obtain ⟨x, h1, h2, h3⟩ := r.nth q
  exact ⟨x, f i x h1, Ext.refl _ _, s, h2, Rep.mono e x v h3⟩
theorem yr_pair {xs : List Val} {i : Nat} {H2 H3 : Hp} {v a b : V} {x y : Val} {T : Addr} (hv : v = .ref T) (hT : H2 T = none) (hH : H3 = upd H2 T (.tup [a, b])) (hx : xs[i]? = some (.tup [x, y])) (ra : x.st = true ∧ Rep K hid ρ H x a) (rb : y.st = true ∧ Rep K hid ρ H y b) : YR K hid ρ H xs i H2 v H3 := by
  intro ρ2 S e s
  subst hv hH
  exact ⟨_, hx, Ext.new hT, s.new hT, rfl, rep_newT hT (.cons ⟨ra.1, Rep.mono e _ _ ra.2⟩ (.cons ⟨rb.1, Rep.mono e _ _ rb.2⟩ .nil))⟩
theorem RepK.keyAt : ∀ {kvs : List (Val × Val)} {ws : List (L2.Key × V)} {i : Nat} {k : L2.Key} {v : V}, RepK K hid ρ H kvs ws → ws[i]? = some (k, v) → ∃ x, (kvs.map fun p => p.1)[i]? = some x ∧ x.st = true ∧ Rep K hid ρ H x (kV k)
  | [], _, i, k, v, r, q => by simp only [RepK] at r; subst r; simp at q
  | (x, y) :: kvs, ws, i, k, v, r, q => by
    simp only [RepK] at r
    obtain ⟨w, l, e, hf, _, r2⟩ := r
    subst e
    cases i with
    | zero =>
      simp at q
      obtain ⟨q1, q2⟩ := q
      subst q1
      refine ⟨x, by simp, ?_⟩
      cases x <;> simp only [Val.flatKey] at hf <;> first | (cases hf; done) | exact ⟨rfl, by simp only [Rep, keyOf, kV]⟩
    | succ i =>
      obtain ⟨z, h1, h2⟩ := RepK.keyAt r2 (by simpa using q)
      exact ⟨z, by simpa using h1, h2⟩
theorem RepK.len : ∀ {kvs : List (Val × Val)} {ws : List (L2.Key × V)}, RepK K hid ρ H kvs ws → kvs.length = ws.length
  | [], _, r => by simp only [RepK] at r; subst r; rfl
  | (x, y) :: kvs, ws, r => by
    simp only [RepK] at r
    obtain ⟨w, l, e, hf, _, r2⟩ := r
    subst e
    simp only [List.length_cons, RepK.len r2]
theorem WalkOk.walk {xs : List Val} {J : It} (h : WalkOk K hid ρ H xs J) : Walk J xs.length (fun H2 => ∃ ρ2, Ext ρ H ρ2 H2) (YR K hid ρ H xs) := by
  cases h with
  | list h ha r =>
    rw [← r.length]
    exact walk_list.mono (fun H2 ⟨ρ2, e⟩ => .inl (e.rd ha h)) fun i H2 v H3 hi _ y => yr_same r (fun _ _ q => q) y
  | tup h r =>
    rw [← r.length]
    exact walk_tup.mono (fun H2 ⟨ρ2, e⟩ => e.sqT h) fun i H2 v H3 hi _ y => yr_same r (fun _ _ q => q) y
  | @range lo n =>
    rw [rangeV_len]
    refine walk_range.mono (fun H2 _ => trivial) fun i H2 v H3 hi _ y => ?_
    intro ρ2 S e s
    obtain ⟨e1, e2⟩ := y
    subst e1 e2
    exact ⟨_, rangeV_get lo n i hi, Ext.refl _ _, s, rfl, .of_int⟩
  | @str z =>
    have hz : (strOf z).cps.size = (z.map fun c => Val.str [c]).length := by simp [strOf]
    rw [← hz]
    refine walk_str.mono (fun H2 _ => trivial) fun i H2 v H3 hi _ y => ?_
    intro ρ2 S e s
    obtain ⟨e1, ch, e2, e3⟩ := y
    subst e1 e3
    have q : z[i]? = some ch := by simpa [strOf] using e2
    refine ⟨.str [ch], by simp [q], Ext.refl _ _, s, rfl, ?_⟩
    simp only [Rep, strOf]
  | enumL h ha r =>
    rw [enumFrom_len, ← r.length]
    refine walk_enum.mono (fun H2 ⟨ρ2, e⟩ => .inl (e.rd ha h)) fun i H2 v H3 hi _ y => ?_
    obtain ⟨T, a, b, h1, h2, h3, h4, h5⟩ := y
    cases h4
    obtain ⟨x, q1, q2⟩ := r.nth h5
    have q3 := enumFrom_get 0 _ _ _ q1
    rw [Nat.zero_add] at q3
    exact yr_pair h1 h2 h3 q3 ⟨rfl, .of_int⟩ q2
  | @enumT a0 vs0 ys h r =>
    rw [enumFrom_len, ← r.length]
    have W : Walk (IteT K a0) vs0.length (fun H => SqT K H a0 vs0) (YPair (fun i => some (.int (i : Nat))) (fun i => vs0[i]?)) := by
      refine ⟨fun i _ hi q => ⟨vs0, vs0[i], q, by simp [hi]⟩, fun _ q => ⟨vs0, q, rfl⟩, fun i H v H' _ q y => ?_⟩
      obtain ⟨T, x, h1, h2, h3, h4⟩ := y
      exact ⟨T, .int (i : Nat), x, h1, h2, h3, rfl, h4 vs0 q⟩
    refine W.mono (fun H2 ⟨ρ2, e⟩ => e.sqT h) fun i H2 v H3 hi _ y => ?_
    obtain ⟨T, a, b, h1, h2, h3, h4, h5⟩ := y
    cases h4
    obtain ⟨x, q1, q2⟩ := r.nth h5
    have q3 := enumFrom_get 0 _ _ _ q1
    rw [Nat.zero_add] at q3
    exact yr_pair h1 h2 h3 q3 ⟨rfl, .of_int⟩ q2
  | zipL h ha r h' hb r' =>
    have hn := zipV_len
    rw [zipV_len, ← r.length, ← r'.length]
    refine (walk_zip rfl).mono (fun H2 ⟨ρ2, e⟩ => ⟨.inl (e.rd ha h), .inl (e.rd hb h')⟩) fun i H2 v H3 hi _ y => ?_
    obtain ⟨T, a, b, h1, h2, h3, h4, h5⟩ := y
    obtain ⟨x, q1, q2⟩ := r.nth h4
    obtain ⟨x', q1', q2'⟩ := r'.nth h5
    exact yr_pair h1 h2 h3 (zipV_get _ _ _ _ _ q1 q1') q2 q2'
  | @zipT a0 b0 vs0 ws0 xs0 ys0 h r h' r' =>
    rw [zipV_len, ← r.length, ← r'.length]
    have W : Walk (RZ.ItzT K a0 b0) (min vs0.length ws0.length) (fun H => SqT K H a0 vs0 ∧ SqT K H b0 ws0) (YPair (fun i => vs0[i]?) (fun i => ws0[i]?)) := by
      refine ⟨fun i _ hi q => ?_, fun _ q => ⟨vs0, ws0, q.1, q.2, by omega⟩, fun i H v H' _ q y => ?_⟩
      · exact ⟨vs0, ws0, vs0[i]'(by omega), ws0[i]'(by omega), q.1, q.2, by simp, by simp⟩
      · obtain ⟨T, x, z, h1, h2, h3, h4, h5⟩ := y
        exact ⟨T, x, z, h1, h2, h3, h4 vs0 q.1, h5 ws0 q.2⟩
    refine W.mono (fun H2 ⟨ρ2, e⟩ => ⟨e.sqT h, e.sqT h'⟩) fun i H2 v H3 hi _ y => ?_
    obtain ⟨T, a, b, h1, h2, h3, h4, h5⟩ := y
    obtain ⟨x, q1, q2⟩ := r.nth h4
    obtain ⟨x', q1', q2'⟩ := r'.nth h5
    exact yr_pair h1 h2 h3 (zipV_get _ _ _ _ _ q1 q1') q2 q2'
  | @keys d o ws kvs h r =>
    rw [List.length_map, r.len]
    refine walk_keys.mono (fun H2 ⟨ρ2, e⟩ => e.frzs _ _ _ h) fun i H2 v H3 hi _ y => ?_
    intro ρ2 S e s
    obtain ⟨e1, k, u, e2, e3⟩ := y
    subst e1 e3
    obtain ⟨x, h1, h2, h3⟩ := r.keyAt e2
    exact ⟨x, h1, Ext.refl _ _, s, h2, Rep.mono e x _ h3⟩
end

/-! ### sources -/
def tI (K : PySem.W.Frag) (c : Ctx) (src : Src) : TI := fun σ H R => ∃ hid ρ env S, ERep K hid ρ H env σ ∧ SOk K hid ρ H S ∧
  Out K hid ρ H (evalSrc c src env S) fun xs _ ρ' H' => ∀ J, WalkOk K hid ρ' H' xs J → R J H'
section
variable {X : Cx} {c : Ctx} {pos : Pos} {tg xa xb : Expr} {ea eb : E}
theorem Out.some {K : PySem.W.Frag} {hid ρ : List Addr} {H : Hp} {α β : Type} {o : Option α} {S : Sto} {f : α → Sto → R β} {G : β → Sto → List Addr → Hp → Prop} (h : Out K hid ρ H ((R.of o S).bind f) G) : ∃ a, o = some a ∧ Out K hid ρ H (f a S) G := by
  cases o with
  | none => exact h.elim
  | some a => exact ⟨a, rfl, h⟩
theorem i_it (ha : PE X xa (tE X.K c ea)) : PI X tg xa (tI X.K c (.it ea)) := by
  refine ⟨fun pins s σ H R I h => ?_⟩
  obtain ⟨hid, ρ, env, S, hE, hs, h⟩ := h
  simp only [evalSrc] at h
  obtain ⟨x, S1, q, hk⟩ := h.bind
  obtain ⟨xs, hw, _⟩ := (hk ρ H (Ext.refl _ _)).of
  have hk' : ∀ ρ1 H1, Ext ρ H ρ1 H1 → SOk X.K hid ρ1 H1 S1 → ∀ J, WalkOk X.K hid ρ1 H1 xs J → R J H1 := fun ρ1 H1 e1 s1 => by
    have := hk ρ1 H1 e1
    rw [hw] at this
    exact this.pure s1
  cases x with
  | tup ys =>
    cases hw
    refine (pi_tup ha).run pins s σ H R I ⟨hid, ρ, env, S, hE, hs, ?_⟩
    rw [q]
    intro ρ1 H1 e1 s1 v r fr
    simp only [Rep] at r
    obtain ⟨a, vs, h1, h2, h3⟩ := r
    exact ⟨a, h1, ⟨vs, SqT.of h2⟩, hk' ρ1 H1 e1 s1 _ (.tup (SqT.of h2) h3)⟩
  | ptup ys =>
    cases hw
    refine (pi_tup ha).run pins s σ H R I ⟨hid, ρ, env, S, hE, hs, ?_⟩
    rw [q]
    intro ρ1 H1 e1 s1 v r fr
    simp only [Rep] at r
    obtain ⟨a, vs, h1, h2, h3⟩ := r
    exact ⟨a, h1, ⟨vs, .inl h2.rd⟩, hk' ρ1 H1 e1 s1 _ (.tup (.inl h2.rd) h3)⟩
  | lst f ys =>
    cases hw
    refine (pi_list ha).run pins s σ H R I ⟨hid, ρ, env, S, hE, hs, ?_⟩
    rw [q]
    intro ρ1 H1 e1 s1 v r fr
    simp only [Rep] at r
    obtain ⟨a, vs, h1, h2, h3, h4, h5⟩ := r
    exact ⟨a, h1, ⟨vs, .inl h2.rd⟩, hk' ρ1 H1 e1 s1 _ (.list h2.rd h3 h5)⟩
  | str z =>
    cases hw
    refine (pi_str ha).run pins s σ H R I ⟨hid, ρ, env, S, hE, hs, ?_⟩
    rw [q]
    intro ρ1 H1 e1 s1 v r fr
    simp only [Rep] at r
    exact ⟨strOf z, r, hk' ρ1 H1 e1 s1 _ .str⟩
  | _ => cases hw
theorem asInt_out {K : PySem.W.Frag} {hid ρ : List Addr} {H : Hp} {β : Type} {x : Val} {S : Sto} {f : Int → Sto → R β} {G : β → Sto → List Addr → Hp → Prop} (h : Out K hid ρ H ((asInt x S).bind f) G) : ∃ i, x = .int i ∧ Out K hid ρ H (f i S) G := by
  cases x <;> first | exact h.elim | exact ⟨_, rfl, h⟩
theorem i_rng1 {x : Str} {p : Pos} (ex : x = PySem.Str.ofString "range") (hg : Gl X x) (hm : X.mg x = none) (ha : PE X xa (tE X.K c ea)) (hp : plainE xa = true) : PI X tg (.Call (.Name x p) [xa] [] pos) (tI X.K c (.rng1 ea)) := by
  subst ex
  refine PI.imp (pi_range1 hg hm (a_cons ha a_nil hp) (star_cons hp _ _)) fun σ H R h => ?_
  obtain ⟨hid, ρ, env, S, hE, hs, h⟩ := h
  simp only [evalSrc] at h
  refine ⟨hid, ρ, env, S, hE, hs, ?_⟩
  simp only [evalEs]
  obtain ⟨v, S1, q, hk⟩ := h.bind
  rw [q]
  intro ρ1 H1 e1 s1 vs rs
  obtain ⟨i, ev, h2⟩ := asInt_out (hk ρ1 H1 e1)
  subst ev
  obtain ⟨v, ev, r⟩ := RepL.one rs
  subst ev
  cases r.int_
  unfold rangeOf at h2
  split at h2
  · rename_i hb
    refine ⟨i, rfl, hb.2.2.1, hb.2.2.2, ?_⟩
    have := h2.pure s1 (Itr 0 (i - 0).toNat) .range
    rw [Int.sub_zero] at this
    exact this
  · exact h2.elim
theorem i_rng2 {x : Str} {p : Pos} (ex : x = PySem.Str.ofString "range") (hg : Gl X x) (hm : X.mg x = none) (ha : PE X xa (tE X.K c ea)) (hp : plainE xa = true) (hb : PE X xb (tE X.K c eb)) (hp2 : plainE xb = true) : PI X tg (.Call (.Name x p) [xa, xb] [] pos) (tI X.K c (.rng2 ea eb)) := by
  subst ex
  refine PI.imp (pi_range2 hg hm (pa_cons ha (pa_cons hb pa_nil (star_cons hp2 _ _)) (star_cons hp _ _)) (by rw [star_cons hp, star_cons hp2]; rfl) (star_cons hp2 _ _)) fun σ H R h => ?_
  obtain ⟨hid, ρ, env, S, hE, hs, h⟩ := h
  simp only [evalSrc] at h
  refine tE.of hE hs h fun v S1 ρ1 H1 u e1 s1 r1 f1 h1 => ?_
  obtain ⟨i, ev, h1⟩ := asInt_out h1
  subst ev
  refine tE.of (hE.mono e1) s1 h1 fun w S2 ρ2 H2 u2 e2 s2 r2 f2 h2 => ?_
  obtain ⟨j, ev, h9⟩ := asInt_out h2
  subst ev
  cases r1.int_
  cases r2.int_
  unfold rangeOf at h9
  split at h9
  · rename_i hb
    exact ⟨i, j, rfl, hb, h9.pure s2 _ .range⟩
  · exact h9.elim
theorem i_enum {x : Str} {p tpos : Pos} {elts : List Expr} {kk : Nat} (ex : x = PySem.Str.ofString "enumerate") (hg : Gl X x) (hm : X.mg x = none) (ha : PE X xa (tE X.K c ea)) (hp : plainE xa = true) : PI X (.Tuple elts kk tpos) (.Call (.Name x p) [xa] [] pos) (tI X.K c (.enum ea)) := by
  subst ex
  refine PI.imp (pi_en hg hm (pa_cons ha pa_nil (star_cons hp _ _)) (star_cons hp _ _)) fun σ H R h => ?_
  obtain ⟨hid, ρ, env, S, hE, hs, h⟩ := h
  simp only [evalSrc] at h
  refine tE.of hE hs h fun v S1 ρ1 H1 u e1 s1 r1 f1 h1 => ?_
  obtain ⟨xs, hw, h2⟩ := h1.some
  cases v with
  | tup ys =>
    cases hw
    simp only [Rep] at r1
    obtain ⟨a, vs, q1, q2, q3⟩ := r1
    subst q1
    exact ⟨a, vs, rfl, .inr ⟨SqT.of q2, h2.pure s1 _ (.enumT (SqT.of q2) q3)⟩⟩
  | ptup ys =>
    cases hw
    simp only [Rep] at r1
    obtain ⟨a, vs, q1, q2, q3⟩ := r1
    subst q1
    exact ⟨a, vs, rfl, .inr ⟨.inl q2.rd, h2.pure s1 _ (.enumT (.inl q2.rd) q3)⟩⟩
  | lst f ys =>
    cases hw
    simp only [Rep] at r1
    obtain ⟨a, vs, q1, q2, q3, q4, q5⟩ := r1
    subst q1
    exact ⟨a, vs, rfl, .inl ⟨.inl q2.rd, h2.pure s1 _ (.enumL q2.rd q3 q5)⟩⟩
  | _ => cases hw
theorem i_zip {x : Str} {p tpos : Pos} {elts : List Expr} {kk : Nat} (ex : x = PySem.Str.ofString "zip") (hg : Gl X x) (hm : X.mg x = none) (ha : PE X xa (tE X.K c ea)) (hp : plainE xa = true) (hb : PE X xb (tE X.K c eb)) (hp2 : plainE xb = true) :
    PI X (.Tuple elts kk tpos) (.Call (.Name x p) [xa, xb] [] pos) (tI X.K c (.zip ea eb)) := by
  subst ex
  refine PI.imp (RZ.pi_zipA hg hm (pa_cons ha (pa_cons hb pa_nil (star_cons hp2 _ _)) (star_cons hp _ _)) (star_cons hp _ _) (star_none _ _ _ (by simp [hp2]))) fun σ H R h => ?_
  obtain ⟨hid, ρ, env, S, hE, hs, h⟩ := h
  simp only [evalSrc] at h
  refine tE.of hE hs h fun v S1 ρ1 H1 u e1 s1 r1 f1 h1 => ?_
  refine tE.of (hE.mono e1) s1 h1 fun w S2 ρ2 H2 u2 e2 s2 r2 f2 h2 => ?_
  obtain ⟨pq, hw, h3⟩ := h2.some
  unfold twoOf at hw
  split at hw
  · rename_i ys zs
    cases hw
    have r1 := Rep.mono e2 _ _ r1
    simp only [Rep] at r1 r2
    obtain ⟨a, vs, q1, q2, q3⟩ := r1
    obtain ⟨b, ws, k1, k2, k3⟩ := r2
    subst q1 k1
    exact ⟨a, b, vs, ws, rfl, .inr ⟨SqT.of q2, SqT.of k2, h3.pure s2 _ (.zipT (SqT.of q2) q3 (SqT.of k2) k3)⟩⟩
  · rename_i ys zs
    cases hw
    have r1 := Rep.mono e2 _ _ r1
    simp only [Rep] at r1 r2
    obtain ⟨a, vs, q1, q2, q3⟩ := r1
    obtain ⟨b, ws, k1, k2, k3⟩ := r2
    subst q1 k1
    exact ⟨a, b, vs, ws, rfl, .inr ⟨.inl q2.rd, .inl k2.rd, h3.pure s2 _ (.zipT (.inl q2.rd) q3 (.inl k2.rd) k3)⟩⟩
  · rename_i f1 ys f2 zs
    cases hw
    have r1 := Rep.mono e2 _ _ r1
    simp only [Rep] at r1 r2
    obtain ⟨a, vs, q1, q2, q3, q4, q5⟩ := r1
    obtain ⟨b, ws, k1, k2, k3, k4, k5⟩ := r2
    subst q1 k1
    exact ⟨a, b, vs, ws, rfl, .inl ⟨.inl q2.rd, .inl k2.rd, h3.pure s2 _ (.zipL q2.rd q3 q5 k2.rd k3 k5)⟩⟩
  · cases hw
end
end QE

set_option Elab.async false
set_option linter.all false
set_option maxRecDepth 10000
set_option maxHeartbeats 1000000
/-! Targets; statements' readings; for and while. -/
namespace QE
open PySem PySem.Spec PyProof.Rows L2

/-! ### targets -/
mutual
def tgN : T → List Nat
  | .name i => [i]
  | .tup ts => tgNs ts
def tgNs : List T → List Nat
  | [] => []
  | t :: ts => tgN t ++ tgNs ts
end
theorem wipe_get (σ : L2.St) (j : Nat) : ∀ vs : List Nat, (L2.wipe σ vs)[j]? = if j ∈ vs then (σ[j]?).map (fun _ => none) else σ[j]?
  | [] => by simp [L2.wipe]
  | v :: vs => by
    unfold L2.wipe
    rw [List.getElem?_set, wipe_get σ j vs]
    by_cases h : v = j
    · subst h
      simp only [if_true, List.mem_cons, true_or, L2.wipe_length]
      by_cases hl : v < σ.length
      · simp [hl]
      · simp [hl, List.getElem?_eq_none (by omega : σ.length ≤ v)]
    · have : ¬ j = v := fun z => h z.symm
      simp [h, this]
theorem wipe_set {σ : L2.St} {i : Nat} {z : Option V} {vs : List Nat} (h : i ∈ vs) : L2.wipe (σ.set i z) vs = L2.wipe σ vs := by
  apply List.ext_getElem?
  intro j
  rw [wipe_get, wipe_get]
  by_cases hj : i = j
  · subst hj
    simp only [h, if_true, List.getElem?_set_self']
    cases σ[i]? <;> rfl
  · rw [List.getElem?_set_ne hj]
def tG (K : PySem.W.Frag) (tg : T) : TG := fun v σ H Q => ∃ hid ρ env S x env', ERep K hid ρ H env σ ∧ SOk K hid ρ H S ∧ Rep K hid ρ H x v ∧ bindT tg x env = some env' ∧
  ∀ σ', ERep K hid ρ H env' σ' → (∀ vs, (∀ i ∈ tgN tg, i ∈ vs) → L2.wipe σ' vs = L2.wipe σ vs) → Q σ' H
def tGs (K : PySem.W.Frag) (ts : List T) : TGs := fun vs σ H Q => ∃ hid ρ env S xs env', ERep K hid ρ H env σ ∧ SOk K hid ρ H S ∧ RepL K hid ρ H xs vs ∧ bindTs ts xs env = some env' ∧
  ∀ σ', ERep K hid ρ H env' σ' → (∀ vs, (∀ i ∈ tgNs ts, i ∈ vs) → L2.wipe σ' vs = L2.wipe σ vs) → Q σ' H
theorem PGs.imp {X : Cx} {e : List Expr} {t t' : TGs} (h : PGs X e t) (k : ∀ v σ H Q, t' v σ H Q → t v σ H Q) : PGs X e t' := ⟨fun pins s σ H v u Q I r q => h.run pins s σ H v u Q I r (k v σ H Q q)⟩
section
variable {X : Cx} {pos : Pos}
theorem g_name {i : Nat} {x : Str} (hN : X.N.Nodup) (hi : X.N[i]? = some x) (hx : Loc X.env.scope x) (hf : X.fn x = true ∨ X.env.scope.names.lookup x = some .local) : PG X (.Name x pos) (tG X.K (.name i)) := by
  refine PG.imp (pg_name hN hi hx hf) fun v σ H Q h => ?_
  obtain ⟨hid, ρ, env, S, y, env', hE, hs, r, b, q⟩ := h
  simp only [bindT, Option.some.injEq] at b
  subst b
  exact q _ (hE.set i (st_settle y) r.settle) fun vs hm => wipe_set (hm i (by simp [tgN]))
def plainG : Expr → Bool
  | .Starred _ _ => false
  | _ => true
theorem each_cons {e : Expr} (h : plainG e = true) (es : List Expr) (env : PySem.Env) : assignEach (e :: es) env = (false, assign e env) :: assignEach es env := by
  cases e <;> first | rfl | cases h
theorem each_len (env : PySem.Env) : ∀ es : List Expr, es.all plainG = true → (assignEach es env).length = es.length ∧ (assignEach es env).findIdx? (·.1) = none
  | [], _ => ⟨rfl, rfl⟩
  | e :: es, h => by
    simp only [List.all_cons, Bool.and_eq_true] at h
    rw [each_cons h.1]
    obtain ⟨h1, h2⟩ := each_len env es h.2
    refine ⟨by simp [h1], ?_⟩
    simp [List.findIdx?_cons, h2]
theorem gs_nil : PGs X [] (tGs X.K []) := by
  refine PGs.imp pgs_nil fun v σ H Q h => ?_
  obtain ⟨hid, ρ, env, S, xs, env', hE, hs, r, b, q⟩ := h
  cases xs with
  | nil =>
    simp only [bindTs, Option.some.injEq] at b
    subst b
    simp only [RepL] at r
    exact ⟨r, q σ hE fun _ _ => rfl⟩
  | cons x xs => simp [bindTs] at b
theorem gs_cons {e : Expr} {es : List Expr} {t : T} {ts : List T} (h1 : PG X e (tG X.K t)) (h2 : PGs X es (tGs X.K ts)) (hp : plainG e = true) : PGs X (e :: es) (tGs X.K (t :: ts)) := by
  refine PGs.imp (pgs_cons h1 h2 (by rw [each_cons hp]; rfl)) fun v σ H Q h => ?_
  obtain ⟨hid, ρ, env, S, xs, env', hE, hs, r, b, q⟩ := h
  cases xs with
  | nil => simp [bindTs] at b
  | cons x xs =>
    simp only [RepL] at r
    obtain ⟨v1, vr, ev, rx, rr⟩ := r
    simp only [bindTs] at b
    split at b
    · rename_i env1 hb
      refine ⟨v1, vr, ev, hid, ρ, env, S, x, env1, hE, hs, rx.2, hb, fun σ1 hE1 w1 => ?_⟩
      refine ⟨hid, ρ, env1, S, xs, env', hE1, hs, rr, b, fun σ2 hE2 w2 => q σ2 hE2 fun vs hm => ?_⟩
      simp only [tgNs, List.mem_append] at hm
      rw [w2 vs fun i hi => hm i (.inr hi), w1 vs fun i hi => hm i (.inl hi)]
    · cases b
theorem bindTs_len : ∀ {ts : List T} {xs : List Val} {env env' : Env}, bindTs ts xs env = some env' → xs.length = ts.length
  | [], [], _, _, _ => rfl
  | [], _ :: _, _, _, h => by simp [bindTs] at h
  | _ :: _, [], _, _, h => by simp [bindTs] at h
  | t :: ts, x :: xs, env, env', h => by
    simp only [bindTs] at h
    split at h
    · simp only [List.length_cons, bindTs_len h]
    · cases h
theorem g_tup {es : List Expr} {ts : List T} {k : Nat} (hc : X.calm = true) (h : PGs X es (tGs X.K ts)) (hp : es.all plainG = true) (hl : es.length = ts.length) : PG X (.Tuple es k pos) (tG X.K (.tup ts)) := by
  obtain ⟨h1, h2⟩ := each_len X.env es hp
  refine PG.imp (pg_tup (n := es.length) hc h h1 h2) fun v σ H Q hh => ?_
  obtain ⟨hid, ρ, env, S, x, env', hE, hs, r, b, q⟩ := hh
  cases x with
  | tup xs =>
    simp only [Rep] at r
    obtain ⟨a, vs, ev, ha, rl⟩ := r
    simp only [bindT] at b
    refine ⟨a, vs, ev, SqT.of ha, ?_, hid, ρ, env, S, xs, env', hE, hs, rl, b, q⟩
    rw [rl.length, hl]
    exact bindTs_len b
  | _ => simp [bindT] at b

/-! ### statements' readings -/
def Fin (K : PySem.W.Frag) (hid : List Addr) (H : Hp) (D : Ends) : Fl × Env → Sto → List Addr → Hp → Prop := fun f S' ρ' H' => match f.1 with
  | .nx => ∀ σ', ERep K hid ρ' H' f.2 σ' → D.nx σ' H'
  | .bk => ∀ σ', ERep K hid ρ' H' f.2 σ' → D.bk σ' H'
  | .ct => ∀ σ', ERep K hid ρ' H' f.2 σ' → D.ct σ' H'
  | .rt v => ∀ u, Rep K hid ρ' H' v u → Fresh K hid ρ' H' S' H v u → D.rt u H'
theorem Fin.anti {K : PySem.W.Frag} {hid ρ ρ1 ρ2 : List Addr} {H H1 H2 : Hp} {D : Ends} {f : Fl × Env} {S : Sto} (e : Ext ρ H ρ1 H1) (h : Fin K hid H D f S ρ2 H2) : Fin K hid H1 D f S ρ2 H2 := by
  unfold Fin at h ⊢
  split at h
  · exact h
  · exact h
  · exact h
  · exact fun u r fr => h u r (fr.anti e)
section
variable {K : PySem.W.Frag} {hid ρ ρ1 : List Addr} {H H1 : Hp} {α β : Type} {GX GX' : Nat → Sto → List Addr → Hp → Prop}
theorem tE.ofS {c : Ctx} {e : E} {env : Env} {S : Sto} {σ : L2.St} {f : Val → Sto → R β} {G : β → Sto → List Addr → Hp → Prop} {Q : VK}
    (he : ERep K hid ρ H env σ) (hs : SOk K hid ρ H S) (h : OutS K hid ρ H ((evalE c e env S).calm.bind f) G GX)
    (k : ∀ x S1 ρ1 H1 v, Ext ρ H ρ1 H1 → SOk K hid ρ1 H1 S1 → Rep K hid ρ1 H1 x v → Fresh K hid ρ1 H1 S1 H x v → OutS K hid ρ1 H1 (f x S1) G GX → Q v H1) : tE K c e σ H Q := by
  obtain ⟨x, S1, q, hk⟩ := h.bind
  refine ⟨hid, ρ, env, S, he, hs, ?_⟩
  rw [q]
  exact fun ρ1 H1 e1 s1 v r fr => k x S1 ρ1 H1 v e1 s1 r fr (hk ρ1 H1 e1)
theorem tEs.ofS {c : Ctx} {es : List E} {env : Env} {S : Sto} {σ : L2.St} {f : List Val → Sto → R β} {G : β → Sto → List Addr → Hp → Prop} {Q : List V → Hp → Prop}
    (he : ERep K hid ρ H env σ) (hs : SOk K hid ρ H S) (h : OutS K hid ρ H ((evalEs c es env S).calm.bind f) G GX)
    (k : ∀ xs S1 ρ1 H1 vs, Ext ρ H ρ1 H1 → SOk K hid ρ1 H1 S1 → RepL K hid ρ1 H1 xs vs → OutS K hid ρ1 H1 (f xs S1) G GX → Q vs H1) : tEs K c es σ H Q := by
  obtain ⟨x, S1, q, hk⟩ := h.bind
  refine ⟨hid, ρ, env, S, he, hs, ?_⟩
  rw [q]
  exact fun ρ1 H1 e1 s1 v r => k x S1 ρ1 H1 v e1 s1 r (hk ρ1 H1 e1)
theorem asBl_outS {x : Val} {S : Sto} {f : Bool → Sto → R β} {G : β → Sto → List Addr → Hp → Prop} (h : OutS K hid ρ H ((asBl x S).bind f) G GX) : ∃ b, x = .bl b ∧ OutS K hid ρ H (f b S) G GX := by
  cases x <;> first | exact h.elim | exact ⟨_, rfl, h⟩
theorem tT.ofS {c : Ctx} {e : E} {env : Env} {S : Sto} {σ : L2.St} {f : Bool → Sto → R β} {G : β → Sto → List Addr → Hp → Prop} {Q : Bool → Hp → Prop}
    (he : ERep K hid ρ H env σ) (hs : SOk K hid ρ H S) (h : OutS K hid ρ H ((evalE c e env S).calm.bind fun x S1 => (asBl x S1).bind f) G GX)
    (k : ∀ b S1 ρ1 H1, Ext ρ H ρ1 H1 → SOk K hid ρ1 H1 S1 → OutS K hid ρ1 H1 (f b S1) G GX → Q b H1) : tT K c e σ H Q := by
  obtain ⟨x, S1, q, hk⟩ := h.bind
  refine ⟨hid, ρ, env, S, he, hs, ?_⟩
  rw [q]
  intro ρ1 H1 e1 s1
  obtain ⟨b, hx, hk2⟩ := asBl_outS (hk ρ1 H1 e1)
  exact ⟨b, hx, k b _ ρ1 H1 e1 s1 hk2⟩
theorem tT.ofW {c : Ctx} {e : E} {env : Env} {S : Sto} {σ : L2.St} {f : Bool → Sto → R β} {G : β → Sto → List Addr → Hp → Prop} {Q : Bool → Hp → Prop}
    (he : ERep K hid ρ H env σ) (hs : SOk K hid ρ H S) (h : OutS K hid ρ H (((evalE c e env S).bind asBl).calm.bind f) G GX)
    (k : ∀ b S1 ρ1 H1, Ext ρ H ρ1 H1 → SOk K hid ρ1 H1 S1 → OutS K hid ρ1 H1 (f b S1) G GX → Q b H1) : tT K c e σ H Q := by
  obtain ⟨b, S1, q, hk⟩ := h.bind
  obtain ⟨x, S0, q0, q1⟩ : ∃ x S0, evalE c e env S = .ok x S0 ∧ asBl x S0 = .ok b S1 := by
    cases hr : evalE c e env S with
    | ok x S0 => rw [hr] at q; exact ⟨x, S0, rfl, q⟩
    | exc _ _ _ => rw [hr] at q; cases q
    | bad => rw [hr] at q; cases q
  obtain ⟨hx, hS⟩ := asBl_ok q1
  subst hx hS
  refine ⟨hid, ρ, env, S, he, hs, ?_⟩
  rw [q0]
  exact fun ρ1 H1 e1 s1 => ⟨b, rfl, k b _ ρ1 H1 e1 s1 (hk ρ1 H1 e1)⟩
end
def tS (K : PySem.W.Frag) (c : Ctx) (W : L2.WX) (st : Stm) : TS := fun D σ H => ∃ hid ρ env S, ERep K hid ρ H env σ ∧ SOk K hid ρ H S ∧ OutS K hid ρ H (execS c st env S) (Fin K hid H D) (XW c W)
def tSs (K : PySem.W.Frag) (c : Ctx) (W : L2.WX) (st : List Stm) : TS := fun D σ H => ∃ hid ρ env S, ERep K hid ρ H env σ ∧ SOk K hid ρ H S ∧ OutS K hid ρ H (execSs c st env S) (Fin K hid H D) (XW c W)
variable {c : Ctx} {W : L2.WX} {xt : Stmt} {xs : List Stmt} {st : Stm} {ss : List Stm}
theorem ss_nil : PSs X [] (tSs X.K c W []) := by
  refine PSs.imp pss_nil fun D σ H h => ?_
  obtain ⟨hid, ρ, env, S, hE, hs, h⟩ := h
  simp only [execSs] at h
  exact h.pure hs σ hE
theorem ss_cons (h1 : PS X xt (tS X.K c W st)) (h2 : PSs X xs (tSs X.K c W ss)) : PSs X (xt :: xs) (tSs X.K c W (st :: ss)) := by
  refine PSs.imp (pss_cons h1 h2) fun D σ H h => ?_
  obtain ⟨hid, ρ, env, S, hE, hs, h⟩ := h
  simp only [execSs] at h
  refine ⟨hid, ρ, env, S, hE, hs, h.seq fun f S1 ρ1 H1 e1 s1 hk => ?_⟩
  obtain ⟨f, e⟩ := f
  cases f with
  | nx => exact fun σ1 hE1 => ⟨hid, ρ1, e, S1, hE1, s1, hk.mono fun z S2 ρ2 H2 e2 q => Fin.anti e1 q⟩
  | bk => exact hk.pure s1
  | ct => exact hk.pure s1
  | rt v => exact hk.pure s1

/-! ### for, while -/
def LoopP (K : PySem.W.Frag) (c : Ctx) (W : L2.WX) (hid ρ : List Addr) (H : Hp) (D : Ends) (r : Env → Sto → R (Fl × Env)) : L2.St → Hp → Prop := fun σ H2 => ∃ ρ2 env2 S2, ERep K hid ρ2 H2 env2 σ ∧ SOk K hid ρ2 H2 S2 ∧ Ext ρ H ρ2 H2 ∧
  OutS K hid ρ2 H2 (r env2 S2) (Fin K hid H2 D) (XW c W)
theorem for_read {K : PySem.W.Frag} {hid ρ : List Addr} {H : Hp} {D : Ends} {ys : List Val} {J : It} {tg : T} {body : List Stm} {σ : L2.St} {env : Env} {S : Sto} (hE : ERep K hid ρ H env σ) (hs : SOk K hid ρ H S)
    (w : WalkOk K hid ρ H ys J) (h : OutS K hid ρ H (forLoop tg (execSs c body) ys env S) (Fin K hid H D) (XW c W)) :
    ∃ Z : Nat → Nat → L2.St → Hp → Prop, (∃ m, Z 0 m σ H) ∧ ∀ i m σ H, Z i m σ H →
      (J.stop i H ∧ D.nx σ H) ∨ (J.go i H ∧ ∃ N : L2.St → Hp → Prop, (∀ σ' H', N σ' H' → ∃ m', m' < m ∧ Z (i + 1) m' σ' H') ∧ ∀ x H', J.yld i H x H' → tG K tg x σ H' fun σ2 H2 => tSs K c W body { D with nx := N, ct := N, bk := D.nx } σ2 H2) := by
  refine for_it w.walk (fun i => LoopP K c W hid ρ H D (forLoop tg (execSs c body) (ys.drop i))) ⟨ρ, env, S, hE, hs, Ext.refl _ _, by simpa using h⟩ (fun i σ H2 _ p => ?_) (fun i v σ H2 H3 hi p y => ?_) fun σ H2 p => ?_
  · obtain ⟨ρ2, _, _, _, _, e, _⟩ := p
    exact ⟨ρ2, e⟩
  · obtain ⟨ρ2, env2, S2, hE2, hs2, e2, h2⟩ := p
    obtain ⟨x, hx, e3, hs3, st, rx⟩ := y ρ2 S2 e2 hs2
    have hd : ys.drop i = x :: ys.drop (i + 1) := by
      rw [List.drop_eq_getElem_cons hi]
      rw [List.getElem?_eq_getElem hi] at hx
      cases hx
      rfl
    rw [hd, forLoop] at h2
    cases hb : bindT tg x env2 with
    | none => rw [hb] at h2; exact h2.elim
    | some env' =>
      rw [hb] at h2
      refine ⟨hid, ρ2, env2, S2, x, env', hE2.mono e3, hs3, rx, hb, fun σ' hE' _ => ⟨hid, ρ2, env', S2, hE', hs3, (h2.ext e3).seq fun f S5 ρ5 H5 e5 s5 hk => ?_⟩⟩
      obtain ⟨f, e⟩ := f
      have again : ∀ σ', ERep K hid ρ5 H5 e σ' → OutS K hid ρ5 H5 (forLoop tg (execSs c body) (ys.drop (i + 1)) e S5) (Fin K hid H2 D) (XW c W) → LoopP K c W hid ρ H D (forLoop tg (execSs c body) (ys.drop (i + 1))) σ' H5 := fun σ' hE5 hk =>
        ⟨ρ5, e, S5, hE5, s5, (e2.trans e3).trans e5, hk.mono fun z S6 ρ6 H6 e6 q => Fin.anti (e3.trans e5) q⟩
      cases f with
      | nx => exact fun σ' hE5 => again σ' hE5 hk
      | ct => exact fun σ' hE5 => again σ' hE5 hk
      | bk => exact hk.pure s5
      | rt v => exact fun u r fr => hk.pure s5 u r (fr.anti e3)
  · obtain ⟨ρ2, env2, S2, hE2, hs2, e2, h2⟩ := p
    rw [List.drop_length, forLoop] at h2
    exact h2.pure hs2 σ hE2
theorem s_for {tg iter : Expr} {body : List Stmt} {src : Src} {g : T} {bs : List Stm} (hp : PassesOwn (model X.prog X.w) X.A X.env X.xe) (hc : X.calm = true) (hi : PI X tg iter (tI X.K c src)) (hg : PG X tg (tG X.K g)) (hb : PSs X body (tSs X.K c W bs)) (hf : noSetE iter = true) :
    PS X (.For tg iter body [] pos) (tS X.K c W (.for_ g src bs)) := by
  refine PS.imp (ps_for hp hc hi hg hb (no_fold hf X.env)) fun D σ H h => ?_
  obtain ⟨hid, ρ, env, S, hE, hs, h⟩ := h
  simp only [execS] at h
  obtain ⟨ys, S1, q, hk⟩ := h.bind
  refine ⟨hid, ρ, env, S, hE, hs, ?_⟩
  rw [q]
  intro ρ1 H1 e1 s1 J w
  exact for_read (hE.mono e1) s1 w ((hk ρ1 H1 e1).mono fun z S2 ρ2 H2 e2 q => Fin.anti e1 q)
theorem s_while {xc : Expr} {body : List Stmt} {ec : E} {bs : List Stm} (hp : PassesOwn (model X.prog X.w) X.A X.env X.xe) (ht : PT X xc (tT X.K c ec)) (hb : PSs X body (tSs X.K c W bs)) : PS X (.While xc body [] pos) (tS X.K c W (.while_ ec bs)) := by
  refine PS.imp (ps_while hp ht hb) fun D σ H h => ?_
  obtain ⟨hid, ρ, env, S, hE, hs, h⟩ := h
  simp only [execS] at h
  refine ⟨fun m => LoopP X.K c W hid ρ H D (whileLoop (fun e S => ((evalE c ec e S).bind asBl).calm) (execSs c bs) m), ⟨c.fuel, ρ, env, S, hE, hs, Ext.refl _ _, h⟩, ?_⟩
  rintro m σ2 H2 ⟨ρ2, env2, S2, hE2, hs2, e2, h2⟩
  cases m with
  | zero => exact h2.elim
  | succ m =>
    rw [whileLoop] at h2
    refine tT.ofW hE2 hs2 h2 fun b S3 ρ3 H3 e3 s3 h3 => ?_
    cases b with
    | false => exact h3.pure s3 σ2 (hE2.mono e3)
    | true =>
      refine ⟨LoopP X.K c W hid ρ H D (whileLoop (fun e S => ((evalE c ec e S).bind asBl).calm) (execSs c bs) m), fun σ' H' p => ⟨m, Nat.lt_succ_self m, p⟩, hid, ρ3, env2, S3, hE2.mono e3, s3, OutS.seq (G := Fin X.K hid H2 D) (by simpa only [if_true] using h3) fun f S4 ρ4 H4 e4 s4 hk => ?_⟩
      obtain ⟨f, e⟩ := f
      have again : ∀ σ', ERep X.K hid ρ4 H4 e σ' → OutS X.K hid ρ4 H4 (whileLoop (fun e S => ((evalE c ec e S).bind asBl).calm) (execSs c bs) m e S4) (Fin X.K hid H2 D) (XW c W) → LoopP X.K c W hid ρ H D (whileLoop (fun e S => ((evalE c ec e S).bind asBl).calm) (execSs c bs) m) σ' H4 := fun σ' hE5 hk =>
        ⟨ρ4, e, S4, hE5, s4, (e2.trans e3).trans e4, hk.mono fun z S6 ρ6 H6 e6 q => Fin.anti (e3.trans e4) q⟩
      cases f with
      | nx => exact fun σ' hE5 => again σ' hE5 hk
      | ct => exact fun σ' hE5 => again σ' hE5 hk
      | bk => exact hk.pure s4
      | rt v => exact fun u r fr => hk.pure s4 u r (fr.anti e3)
end
end QE

set_option Elab.async false
set_option linter.all false
set_option maxRecDepth 10000
set_option maxHeartbeats 1000000
/-! List comprehensions. -/
namespace QE
open PySem PySem.Spec PyProof.Rows L2
/-! ### from one heap to another -/
structure RepTo (hid ρ : List Addr) (H : Hp) (hid' ρ' : List Addr) (H' : Hp) : Prop where
  tups : ∀ a xs, H a = some (.tup xs) → H' a = some (.tup xs)
  objs : ∀ f a u, RdF f H a u → a ∉ ρ → a ∉ hid → RdF f H' a u ∧ a ∉ ρ' ∧ a ∉ hid'
  cell : ∀ (n : Nat) (a : Addr), ρ[n]? = some a → ρ'[n]? = some a
  exts : ∀ c φ, H c = some (.ext φ) → c ∉ ρ → H' c = some (.ext φ) ∧ c ∉ ρ'
  frzs : ∀ a o u, H a = some (.frz o u) → H' a = some (.frz o u)
section
variable {K : PySem.W.Frag} {hid ρ hid' ρ' : List Addr} {H H' : Hp}
mutual
theorem Rep.to (m : RepTo hid ρ H hid' ρ' H') : ∀ (x : Val) (v : V), Rep K hid ρ H x v → Rep K hid' ρ' H' x v
  | .non, v, h => by simp only [Rep] at h ⊢; exact h
  | .bl b, v, h => by simp only [Rep] at h ⊢; exact h
  | .int i, v, h => by simp only [Rep] at h ⊢; exact h
  | .str s, v, h => by simp only [Rep] at h ⊢; exact h
  | .tup xs, v, h => by
    simp only [Rep] at h ⊢
    obtain ⟨a, vs, h1, h2, h3⟩ := h
    exact ⟨a, vs, h1, m.tups _ _ h2, RepL.to m xs vs h3⟩
  | .lst f xs, v, h => by
    simp only [Rep] at h ⊢
    obtain ⟨a, vs, h1, h2, h3, h4, h5⟩ := h
    obtain ⟨k1, k2, k3⟩ := m.objs _ _ _ h2 h3 h4
    exact ⟨a, vs, h1, k1, k2, k3, RepL.to m xs vs h5⟩
  | .dic f true kvs, v, h => by
    simp only [Rep] at h ⊢
    obtain ⟨a, vs, h1, h2, h3, h4, h5⟩ := h
    obtain ⟨k1, k2, k3⟩ := m.objs _ _ _ h2 h3 h4
    exact ⟨a, vs, h1, k1, k2, k3, RepT.to m kvs vs h5⟩
  | .dic f false kvs, v, h => by
    simp only [Rep] at h ⊢
    obtain ⟨a, vs, h1, h2, h3, h4, h5⟩ := h
    obtain ⟨k1, k2, k3⟩ := m.objs _ _ _ h2 h3 h4
    exact ⟨a, vs, h1, k1, k2, k3, RepK.to m kvs vs h5⟩
  | .ref n, v, h => by
    simp only [Rep] at h ⊢
    obtain ⟨a, h1, h2⟩ := h
    exact ⟨a, m.cell _ _ h1, h2⟩
  | .kls ns, v, h => by simp only [Rep] at h ⊢; exact h
  | .fn _ _, v, h => by simp only [Rep] at h ⊢; exact h
  | .exn _ _, v, h => by simp only [Rep] at h ⊢; exact h
  | .ptup xs, v, h => by
    simp only [Rep] at h ⊢
    obtain ⟨a, vs, h1, ⟨o, h2, h4⟩, h3⟩ := h
    exact ⟨a, vs, h1, ⟨o, m.frzs _ _ _ h2, h4⟩, RepL.to m xs vs h3⟩
theorem RepL.to (m : RepTo hid ρ H hid' ρ' H') : ∀ (xs : List Val) (vs : List V), RepL K hid ρ H xs vs → RepL K hid' ρ' H' xs vs
  | [], vs, h => by simp only [RepL] at h ⊢; exact h
  | x :: xs, vs, h => by
    simp only [RepL] at h ⊢
    obtain ⟨v, r, h1, h2, h3⟩ := h
    exact ⟨v, r, h1, ⟨h2.1, Rep.to m x v h2.2⟩, RepL.to m xs r h3⟩
theorem RepK.to (m : RepTo hid ρ H hid' ρ' H') : ∀ (xs : List (Val × Val)) (ws : List (L2.Key × V)), RepK K hid ρ H xs ws → RepK K hid' ρ' H' xs ws
  | [], vs, h => by simp only [RepK] at h ⊢; exact h
  | (k, x) :: xs, vs, h => by
    simp only [RepK] at h ⊢
    obtain ⟨v, r, h1, h4, h2, h3⟩ := h
    exact ⟨v, r, h1, h4, ⟨h2.1, Rep.to m x v h2.2⟩, RepK.to m xs r h3⟩
theorem RepT.to (m : RepTo hid ρ H hid' ρ' H') : ∀ (xs : List (Val × Val)) (ws : List (List L2.Key × V)), RepT K hid ρ H xs ws → RepT K hid' ρ' H' xs ws
  | [], vs, h => by simp only [RepT] at h ⊢; exact h
  | (k, x) :: xs, vs, h => by
    simp only [RepT] at h ⊢
    obtain ⟨v, r, h1, h4, h2, h3⟩ := h
    exact ⟨v, r, h1, h4, ⟨h2.1, Rep.to m x v h2.2⟩, RepT.to m xs r h3⟩
end
theorem ObRep.to (m : RepTo hid ρ H hid' ρ' H') {a : Addr} (e : H' a = H a) : ∀ {o : Ob}, ObRep K hid ρ H a o → ObRep K hid' ρ' H' a o
  | .lst xs, ⟨vs, h1, h2⟩ => ⟨vs, e.trans h1, RepL.to m xs vs h2⟩
  | .dic true xs, ⟨vs, h1, h2⟩ => ⟨vs, e.trans h1, RepT.to m xs vs h2⟩
  | .dic false xs, ⟨vs, h1, h2⟩ => ⟨vs, e.trans h1, RepK.to m xs vs h2⟩
  | .tbl p q, ⟨ea, ps, h1, h2, h3⟩ => ⟨ea, ps, (ea ▸ e).trans h1, h2, fun pos cv hc => let ⟨c, e1, e2, e3⟩ := h3 pos cv hc; ⟨c, e1, (m.exts c _ e3 e2).2, (m.exts c _ e3 e2).1⟩⟩
/-- the hidden object is written -/
theorem to_over {D : Addr} {u o : HO} (hD : H D = some u) (hu : ∀ xs, u ≠ .tup xs) (hx : ∀ φ, u ≠ .ext φ := by intro _ z; cases z) (hf : ∀ o w, u ≠ .frz o w := by intro _ _ z; cases z) : RepTo (D :: hid) ρ H (D :: hid) ρ (upd H D o) :=
  ⟨fun a xs h => by rw [upd_ne (fun z => by subst z; rw [hD] at h; cases h; exact hu xs rfl)]; exact h,
   fun f a w h h1 h2 => by
    have ne : a ≠ D := fun z => h2 (by simp [z])
    refine ⟨?_, h1, h2⟩
    cases f with
    | true => show upd H D o a = _; rw [upd_ne ne]; exact h
    | false =>
      rcases h with h | ⟨w', h⟩
      · exact .inl (by rw [upd_ne ne]; exact h)
      · exact .inr ⟨w', by rw [upd_ne ne]; exact h⟩,
   fun n a h => h, fun c φ h h1 => ⟨by rw [upd_ne (fun z => by subst z; rw [hD] at h; cases h; exact hx φ rfl)]; exact h, h1⟩,
   fun a q w h => by rw [upd_ne (fun z => by subst z; rw [hD] at h; cases h; exact hf q w rfl)]; exact h⟩
theorem SOk.over {D : Addr} {u o : HO} {S : Sto} (s : SOk K (D :: hid) ρ H S) (hD : H D = some u) (hu : ∀ xs, u ≠ .tup xs) (hx : ∀ φ, u ≠ .ext φ := by intro _ z; cases z) (no : NT o := by intro _ z; cases z) (hf : ∀ o w, u ≠ .frz o w := by intro _ _ z; cases z) : SOk K (D :: hid) ρ (upd H D o) S := by
  refine ⟨s.len, s.nd, s.apart, fun a ha => ?_, fun n ob q => ?_⟩
  · by_cases e : a = D
    · subst e; exact ⟨o, upd_same, no⟩
    · rw [upd_ne e]; exact s.hidd a ha
  · obtain ⟨a, h1, h2⟩ := s.ob n ob q
    exact ⟨a, h1, h2.to (to_over hD hu hx hf) (upd_ne fun z => s.apart a (List.mem_of_getElem? h1) (by simp [z]))⟩
/-- the hidden object becomes a cell -/
theorem to_take {D : Addr} (hx : ∀ φ, H D ≠ some (.ext φ)) : RepTo (D :: hid) ρ H hid (ρ ++ [D]) H :=
  ⟨fun a xs h => h, fun f a w h h1 h2 => ⟨h, fun z => by
    rcases List.mem_append.mp z with z | z
    · exact h1 z
    · exact h2 (by simp [List.mem_singleton.mp z]), fun z => h2 (List.mem_cons_of_mem _ z)⟩,
   fun n a h => by rw [List.getElem?_append_left (List.getElem?_eq_some_iff.mp h).1]; exact h, fun c φ h h1 => ⟨h, fun z => by
    rcases List.mem_append.mp z with z | z
    · exact h1 z
    · rw [List.mem_singleton.mp z] at h; exact hx φ h⟩, fun _ _ _ h => h⟩
theorem ObRep.noext {a : Addr} : ∀ {ob : Ob}, ObRep K hid ρ H a ob → ∀ φ, H a ≠ some (.ext φ)
  | .lst xs, ⟨vs, h1, _⟩, φ, z => by rw [h1] at z; cases z
  | .dic true xs, ⟨vs, h1, _⟩, φ, z => by rw [h1] at z; cases z
  | .dic false xs, ⟨vs, h1, _⟩, φ, z => by rw [h1] at z; cases z
  | .tbl p q, ⟨ea, ps, h1, _⟩, φ, z => by rw [ea, h1] at z; cases z
theorem SOk.take {D : Addr} {S : Sto} {ob : Ob} (s : SOk K (D :: hid) ρ H S) (hd : D ∉ hid) (r : ObRep K (D :: hid) ρ H D ob) : SOk K hid (ρ ++ [D]) H (S ++ [ob]) := by
  have nd : D ∉ ρ := fun z => s.apart D z (by simp)
  refine ⟨by simp [s.len], ?_, ?_, fun a ha => s.hidd a (List.mem_cons_of_mem _ ha), fun n ob' q => ?_⟩
  · rw [List.nodup_append]
    exact ⟨s.nd, by simp, fun x hx y hy => by
      rw [List.mem_singleton] at hy
      subst hy
      exact fun z => nd (z ▸ hx)⟩
  · intro b hb
    rcases List.mem_append.mp hb with hb | hb
    · exact fun z => s.apart b hb (List.mem_cons_of_mem _ z)
    · rw [List.mem_singleton.mp hb]; exact hd
  · by_cases hn : n < S.length
    · rw [List.getElem?_append_left hn] at q
      obtain ⟨b, hb, rb⟩ := s.ob n ob' q
      exact ⟨b, by rw [List.getElem?_append_left (by rw [s.len]; exact hn)]; exact hb, rb.to (to_take r.noext) rfl⟩
    · have hn2 : n = S.length := by
        have := (List.getElem?_eq_some_iff.mp q).1
        simp at this
        omega
      subst hn2
      rw [List.getElem?_append_right (Nat.le_refl _)] at q
      simp at q
      subst q
      exact ⟨D, by rw [← s.len, List.getElem?_append_right (Nat.le_refl _)]; simp, r.to (to_take r.noext) rfl⟩
theorem Ext.over {D : Addr} {o : HO} (e : Ext ρ H ρ' H') (hd : H D = none) : Ext ρ H ρ' (upd H' D o) := by
  have ne : ∀ b u, H b = some u → b ≠ D := fun b u h z => by rw [z, hd] at h; cases h
  exact ⟨e.more, fun b u h hb n => by rw [upd_ne (ne b u h)]; exact e.keep0 b u h hb n, fun b u h n => by rw [upd_ne (ne b u h)]; exact e.there0 b u h n,
    fun b xs h => by rw [upd_ne (ne b _ h)]; exact e.tups b xs h, fun b u w h => by rw [upd_ne (ne b _ h)]; exact e.frzs b u w h⟩
theorem ERep.hide0 {D : Addr} {env : Env} {σ : L2.St} (h : ERep K hid ρ H env σ) (hd : H D = none) : ERep K (D :: hid) ρ H env σ := by
  refine ⟨h.len, fun i x q => ?_⟩
  obtain ⟨v, a, st, b⟩ := h.at_ i x q
  exact ⟨v, a, st, Rep.hide hd x v b⟩
theorem WalkOk.hide0 {D : Addr} {xs : List Val} {J : It} (h : WalkOk K hid ρ H xs J) (hd : H D = none) : WalkOk K (D :: hid) ρ H xs J := by
  have rl : ∀ {xs : List Val} {vs : List V}, RepL K hid ρ H xs vs → RepL K (D :: hid) ρ H xs vs := fun {xs vs} r => RepL.hide hd xs vs r
  cases h with
  | list h ha r => exact .list h ha (rl r)
  | tup h r => exact .tup h (rl r)
  | range => exact .range
  | str => exact .str
  | enumL h ha r => exact .enumL h ha (rl r)
  | enumT h r => exact .enumT h (rl r)
  | zipL h ha r h' hb r' => exact .zipL h ha (rl r) h' hb (rl r')
  | zipT h r h' r' => exact .zipT h (rl r) h' (rl r')
  | keys h r => exact .keys h (RepK.hide hd _ _ r)
theorem wipe_wipe (σ : L2.St) (vs : List Nat) : L2.wipe (L2.wipe σ vs) vs = L2.wipe σ vs := by
  apply List.ext_getElem?
  intro j
  rw [wipe_get, wipe_get]
  by_cases h : j ∈ vs
  · simp only [h, if_true]
    cases σ[j]? <;> rfl
  · simp only [h, if_false]
end

/-! ### tests of a clause -/
section
variable {X : Cx} {c : Ctx} {pos : Pos} {xa : Expr} {ea : E}
theorem ifs_nil : PTs X [] (tBs (evalAnd c) X.K []) := by
  refine PTs.imp pts_nil fun σ H Q h => ?_
  obtain ⟨hid, ρ, env, S, hE, hs, h⟩ := h
  simp only [evalAnd] at h
  exact h.pure hs
theorem ifs_one (h : PT X xa (tT X.K c ea)) : PTs X [xa] (tBs (evalAnd c) X.K [ea]) := by
  refine PTs.imp (pts_one h) fun σ H Q h => ?_
  obtain ⟨hid, ρ, env, S, hE, hs, h⟩ := h
  simp only [evalAnd] at h
  refine tT.of hE hs h fun b S1 ρ1 H1 e1 s1 h1 => ?_
  cases b with
  | true => exact h1.pure s1
  | false => exact h1.pure s1

theorem calm_ok {α : Type} {r : R α} {a : α} {S : Sto} (h : r.calm = .ok a S) : r = .ok a S := by
  cases r <;> simp only [R.calm] at h <;> cases h
  rfl
theorem bind_ok {α β : Type} {r : R α} {f : α → Sto → R β} {b : β} {S : Sto} (h : r.bind f = .ok b S) : ∃ a S1, r = .ok a S1 ∧ f a S1 = .ok b S := by
  cases r with
  | ok a S1 => exact ⟨a, S1, rfl, h⟩
  | exc _ _ _ => cases h
  | bad => cases h
theorem lc_read {own : List Nat} {tg : T} {src : Src} {ifs : List E} {elt : E} (hown : ∀ i ∈ tgN tg, i ∈ own) {σ : L2.St} {H : Hp} {Q : VK} (h : tE X.K c (.comp own tg src ifs elt) σ H Q) :
    tLc (tI X.K c src) (tG X.K tg) (tBs (evalAnd c) X.K ifs) (tE X.K c elt) own σ H Q := by
  obtain ⟨hid, ρ, env, S, hE, hs, h⟩ := h
  simp only [evalE] at h
  obtain ⟨xs, S1, q, hk⟩ := h.bind
  refine ⟨hid, ρ, env, S, hE, hs, ?_⟩
  rw [q]
  intro ρ1 H1 e1 s1 J w D hD
  obtain ⟨ys, S', q2, hk2⟩ := (hk ρ1 H1 e1).bind
  have q2 := calm_ok q2
  have hlim : ys.length ≤ lim := by
    have := hk2 ρ1 H1 (Ext.refl _ _)
    split at this
    · assumption
    · exact this.elim
  refine lc_it (w.hide0 hD).walk (fun i H2 => ∃ ρ2 S2 acc accv ys2, H2 D = some (.lst accv) ∧ RepL X.K (D :: hid) ρ2 H2 acc accv ∧ SOk X.K (D :: hid) ρ2 H2 S2 ∧ Ext ρ1 H1 ρ2 H2 ∧
    compLoop tg (evalAnd c ifs) (evalE c elt) (QE.wipe env own) (xs.drop i) S2 = .ok ys2 S' ∧ acc ++ ys2 = ys) ⟨ρ1, S1, [], [], ys, upd_same, .nil, s1.hide hD, Ext.new hD, by simpa using q2, rfl⟩
    (fun i H2 _ p => ?_) (fun i v H2 H3 hi p y => ?_) fun H2 p => ?_
  · obtain ⟨ρ2, _, _, _, _, _, _, _, e, _⟩ := p
    exact ⟨ρ2, e⟩
  · obtain ⟨ρ2, S2, acc, accv, ys2, hD2, racc, hs2, e2, hcl, hys⟩ := p
    obtain ⟨x, hx, e3, hs3, st, rx⟩ := y ρ2 S2 e2 hs2
    have hd : xs.drop i = x :: xs.drop (i + 1) := by
      rw [List.drop_eq_getElem_cons hi]
      rw [List.getElem?_eq_getElem hi] at hx
      cases hx
      rfl
    rw [hd, compLoop] at hcl
    cases hb : bindT tg x (QE.wipe env own) with
    | none => rw [hb] at hcl; cases hcl
    | some env' =>
      rw [hb] at hcl
      obtain ⟨b, S3, qt, hcl⟩ := bind_ok hcl
      have dn : D ∉ ρ2 := fun z => hs2.apart D z (by simp)
      have hE3 : ERep X.K (D :: hid) ρ2 H3 (QE.wipe env own) (L2.wipe σ own) := ((((hE.mono e1).hide0 hD).mono e2).mono e3).wipe own
      refine ⟨D :: hid, ρ2, QE.wipe env own, S2, x, env', hE3, hs3, rx, hb, fun σ' hE' hw => ⟨by rw [hw own hown, wipe_wipe], D :: hid, ρ2, env', S2, hE', hs3, ?_⟩⟩
      rw [qt]
      intro ρ5 H5 e5 s5
      have dn5 : D ∉ ρ5 := fun z => s5.apart D z (by simp)
      have hD5 : H5 D = some (.lst accv) := e5.keep _ _ (e3.keep _ _ hD2 dn) dn
      cases b with
      | false =>
        simp only [Bool.false_eq_true, if_false] at hcl ⊢
        exact ⟨ρ5, S3, acc, accv, ys2, hD5, RepL.mono (e3.trans e5) _ _ racc, s5, (e2.trans e3).trans e5, hcl, hys⟩
      | true =>
        simp only [if_true] at hcl ⊢
        obtain ⟨z, S4, qe, hcl⟩ := bind_ok hcl
        obtain ⟨ys3, S6, ql, hcl⟩ := bind_ok hcl
        cases hcl
        refine ⟨D :: hid, ρ5, env', S3, hE'.mono e5, s5, ?_⟩
        rw [qe]
        intro ρ6 H6 e6 s6 zv rz frz
        have hD6 : H6 D = some (.lst accv) := e6.keep _ _ hD5 dn5
        have hl : accv.length < sizeLine := by
          rw [racc.length, ← lim_eq]
          have := congrArg List.length hys
          rw [List.length_append, List.length_cons] at this
          omega
        have rall : RepL X.K (D :: hid) ρ6 H6 (acc ++ [z.settle]) (accv ++ [zv]) := (RepL.mono ((e3.trans e5).trans e6) _ _ racc).app (.cons ⟨st_settle z, rz.settle⟩ .nil)
        refine ⟨accv, hD6, hl, ρ6, S4, acc ++ [z.settle], accv ++ [zv], ys3, upd_same, RepL.to (to_over hD6 (fun xs => by simp)) _ _ rall, s6.over hD6 (fun xs => by simp), (((e2.trans e3).trans e5).trans e6).over hD, ql, ?_⟩
        rw [List.append_assoc]
        exact hys
  · obtain ⟨ρ2, S2, acc, accv, ys2, hD2, racc, hs2, e2, hcl, hys⟩ := p
    rw [List.drop_length, compLoop] at hcl
    cases hcl
    rw [List.append_nil] at hys
    subst hys
    have h9 := hk2 ρ2 H2 e2
    rw [if_pos hlim] at h9
    have dn : D ∉ ρ2 := fun z => hs2.apart D z (by simp)
    have dh : D ∉ hid := s1.new2 hD
    refine h9.pure hs2.seen (.ref D) ?_ ⟨D, rfl, e1.free (.of hD), hs2.take dh ⟨accv, hD2, racc⟩⟩
    simp only [Rep]
    exact ⟨D, accv, rfl, hD2, dn, dh, RepL.seen _ _ racc⟩
/-- as a value -/
theorem s_comp {xe tg iter : Expr} {xifs : List Expr} {scope : Scope} {own : List (Str × Nat)} {g : T} {src : Src} {ifs : List E} {elt : E} (hc : X.calm = true) (hN : X.N.Nodup) (hi : PI X tg iter (tI X.K c src)) (ok : BlkOk X.N X.env.scope scope own)
    (hg : ∀ (s : Shared) (H : Hp) (C : Addr) (cl : List (Str × Addr)) (fp : List Addr), PG (X.blk s H scope (compEnvC scope cl C X.env) fp) tg (tG X.K g))
    (ht : ∀ (s : Shared) (H : Hp) (C : Addr) (cl : List (Str × Addr)) (fp : List Addr), PTs (X.blk s H scope (compEnvC scope cl C X.env) fp) xifs (tBs (evalAnd c) X.K ifs))
    (he : ∀ (s : Shared) (H : Hp) (C : Addr) (cl : List (Str × Addr)) (fp : List Addr), PE (X.blk s H scope (compEnvC scope cl C X.env) fp) xe (tE X.K c elt)) (hf : noSetE iter = true) (hown : ∀ i ∈ tgN g, i ∈ own.map (·.2)) :
    PE X (.ListComp xe [⟨tg, iter, xifs, 0⟩] scope pos) (tE X.K c (.comp (own.map (·.2)) g src ifs elt)) :=
  PE.imp (pe_lc hc hN hi ok hg ht he (no_fold hf X.env)) fun σ H Q h => lc_read hown h
/-- name = value, by the evaluator -/
theorem set_read {W : L2.WX} {i : Nat} {e : E} {D : Ends} {σ : L2.St} {H : Hp} (h : tS X.K c W (.asg (.name i) e) D σ H) : tE X.K c e σ H fun x H1 => gName i x σ H1 D.nx := by
  obtain ⟨hid, ρ, env, S, hE, hs, h⟩ := h
  simp only [execS] at h
  refine tE.ofS hE hs h fun v S1 ρ1 H1 u e1 s1 r1 f1 h1 => ?_
  simp only [bindT, R.of, R.bind] at h1
  exact h1.pure s1 _ ((hE.mono e1).set i (st_settle v) r1.settle)
/-- name = [..] on one line, the name a local -/
theorem s_setComp {W : L2.WX} {i : Nat} {y : Str} {py spos : Pos} {xe tg iter : Expr} {xifs : List Expr} {scope : Scope} {own : List (Str × Nat)} {g : T} {src : Src} {ifs : List E} {elt e' : E} (rd : ∀ σ H Q, tE X.K c e' σ H Q → tE X.K c (.comp (own.map (·.2)) g src ifs elt) σ H Q)
    (hc : X.calm = true) (hN : X.N.Nodup) (hy : X.N[i]? = some y) (hyl : X.env.scope.names.lookup y = some .local)
    (hsw : swapsWith (.ListComp xe [⟨tg, iter, xifs, 0⟩] scope pos) (some (.Name y py)) spos.line X.env = pure true) (hi : PI X tg iter (tI X.K c src)) (ok : BlkOk X.N X.env.scope scope own)
    (hg : ∀ (s : Shared) (H : Hp) (C : Addr) (cl : List (Str × Addr)) (fp : List Addr), PG (X.blk s H scope (compEnvC scope cl C X.env) fp) tg (tG X.K g))
    (ht : ∀ (s : Shared) (H : Hp) (C : Addr) (cl : List (Str × Addr)) (fp : List Addr), PTs (X.blk s H scope (compEnvC scope cl C X.env) fp) xifs (tBs (evalAnd c) X.K ifs))
    (he : ∀ (s : Shared) (H : Hp) (C : Addr) (cl : List (Str × Addr)) (fp : List Addr), PE (X.blk s H scope (compEnvC scope cl C X.env) fp) xe (tE X.K c elt)) (hf : noSetE iter = true) (hown : ∀ i ∈ tgN g, i ∈ own.map (·.2)) :
    PS X (.Assign [.Name y py] (.ListComp xe [⟨tg, iter, xifs, 0⟩] scope pos) spos) (tS X.K c W (.asg (.name i) e')) :=
  PS.imp (ps_setLc hc hN hy hyl hsw hi ok hg ht he (no_fold hf X.env)) fun D σ H h => lc_read hown (rd _ _ _ (set_read h))
end
end QE

set_option Elab.async false
set_option linter.all false
set_option maxRecDepth 10000
set_option maxHeartbeats 1000000
/-! Statements. -/
namespace QE
open PySem PySem.Spec PyProof.Rows L2
theorem cell_read {K : PySem.W.Frag} {c : Ctx} {ev : E} {σ : L2.St} {H : Hp} {Q : VK} (h : tE K c (.cell ev) σ H Q) : tE K c ev σ H Q := by
  obtain ⟨hid, ρ, env, S, hE, hs, h⟩ := h
  simp only [evalE] at h
  obtain ⟨x, S1, q, hk⟩ := h.bind
  refine ⟨hid, ρ, env, S, hE, hs, ?_⟩
  rw [q]
  intro ρ1 H1 e1 s1 v r fr
  have hk := hk ρ H (Ext.refl _ _)
  unfold newCell at hk
  split at hk
  · rename_i xs
    obtain ⟨a, ev, h0, s2⟩ := fr
    subst ev
    refine hk (ρ1 ++ [a]) H1 (e1.give h0) s2 (.ref a) ?_ trivial
    simp only [Rep]
    refine ⟨a, ?_, rfl⟩
    rw [← s1.len, List.getElem?_append_right (Nat.le_refl _)]
    simp
  · rename_i t kvs
    obtain ⟨a, ev, h0, s2⟩ := fr
    subst ev
    refine hk (ρ1 ++ [a]) H1 (e1.give h0) s2 (.ref a) ?_ trivial
    simp only [Rep]
    refine ⟨a, ?_, rfl⟩
    rw [← s1.len, List.getElem?_append_right (Nat.le_refl _)]
    simp
  · exact hk.elim
section
variable {X : Cx} {c : Ctx} {W : L2.WX} {pos : Pos} {xa xb : Expr} {ea eb : E}
/-! ### shapes of assignments -/
def noComp : Expr → Bool
  | .ListComp _ _ _ _ => false
  | .SetComp _ _ _ _ => false
  | .DictComp _ _ _ _ _ => false
  | _ => true
theorem no_swaps {e : Expr} (h : noComp e = true) (t : Option Expr) (l : Nat) (env : PySem.Env) : swapsWith e t l env = pure false := by
  cases e <;> first | rfl | cases h
def noName : Expr → Bool
  | .Name _ _ => false
  | _ => true
theorem no_swapT {t : Expr} (h : noName t = true) (e : Expr) (l : Nat) (env : PySem.Env) : swapsWith e (some t) l env = pure false := by
  cases t <;> first | (cases h; done) | (cases e <;> rfl)
def noTup : Expr → Bool
  | .Tuple _ _ _ => false
  | _ => true
theorem no_stores {e : Expr} (h : noTup e = true) (tg : Expr) (env : PySem.Env) : swappedStores [tg] e env = pure none := by
  cases e <;> first | (cases h; done) | (cases tg <;> rfl)
def noSeqT : Expr → Bool
  | .Tuple _ _ _ => false
  | .List _ _ => false
  | _ => true
theorem no_storesT {tg : Expr} (h : noSeqT tg = true) (e : Expr) (env : PySem.Env) : swappedStores [tg] e env = pure none := by
  cases tg <;> first | (cases h; done) | (cases e <;> rfl)

/-- a target's name that is no plain local -/
def celT (sc : Scope) : Expr → Bool
  | .Name y _ => !decide (sc.names.lookup y = some .local)
  | _ => false
theorem cel_swaps {t : Expr} {env : PySem.Env} (h : celT env.scope t = true) (e : Expr) (l : Nat) : swapsWith e (some t) l env = pure false := by
  cases t <;> simp only [celT] at h <;> try (cases h; done)
  rename_i y p
  simp only [Bool.not_eq_true', decide_eq_false_iff_not] at h
  have hk : (env.kindOf y == some .local) = false := by
    show (env.scope.names.lookup y == some NameKind.local) = false
    simpa using h
  cases e <;> first | rfl | (unfold swapsWith; simp [hk])
def celTs (sc : Scope) : Expr → Bool
  | .Tuple ts _ _ => ts.any (celT sc)
  | _ => false
theorem cel_stores {tg : Expr} {env : PySem.Env} (h : celTs env.scope tg = true) (e : Expr) : swappedStores [tg] e env = pure none := by
  cases tg <;> simp only [celTs] at h <;> try (cases h; done)
  rename_i ts kt pt
  cases e <;> try rfl
  rename_i vs k2 p2
  have key : ∀ line : Nat, ((ts.filterMap fun
    | .Name id pos => if env.kindOf id == some .local && pos.line == line then some id else none
    | _ => none).length != ts.length) = true := by
    intro line
    obtain ⟨t, ht, hc⟩ := List.any_eq_true.mp h
    have := List.length_filterMap_lt_length_iff_exists (f := fun x : Expr => (match x with
      | .Name id pos => if env.kindOf id == some .local && pos.line == line then some id else none
      | _ => none : Option Str)) (xs := ts)
    have hh := this.mpr ⟨t, ht, by
      cases t <;> simp only [celT] at hc <;> try (cases hc; done)
      rename_i y p
      simp only [Bool.not_eq_true', decide_eq_false_iff_not] at hc
      have hk : (env.kindOf y == some .local) = false := by
        show (env.scope.names.lookup y == some NameKind.local) = false
        simpa using hc
      simp [hk]⟩
    simp only [bne_iff_ne, ne_eq]
    omega
  unfold swappedStores
  show (if (!(ts.length == 2 || ts.length == 3) || vs.length != ts.length || env.blockKind != ScopeKind.function) = true then pure none else _) = _
  split
  · rfl
  · split
    · rfl
    · rw [if_pos]
      rw [Bool.or_eq_true]
      left
      exact key _

/-! ### assignments -/
theorem s_asg {tg : Expr} {g : T} (ha : PE X xa (tE X.K c ea)) (hg : PG X tg (tG X.K g)) (hp : plainG tg = true) (h1 : noComp xa = true ∨ noName tg = true ∨ celT X.env.scope tg = true) (h2 : noTup xa = true ∨ noSeqT tg = true ∨ celTs X.env.scope tg = true) : PS X (.Assign [tg] xa pos) (tS X.K c W (.asg g ea)) := by
  have sw : swapsWithSole [tg] xa pos.line X.env = pure false := by
    show swapsWith xa (some tg) pos.line X.env = _
    rcases h1 with h | h | h
    · exact no_swaps h _ _ _
    · exact no_swapT h _ _ _
    · exact cel_swaps h _ _
  have ss : swappedStores [tg] xa X.env = pure none := by
    rcases h2 with h | h | h
    · exact no_stores h _ _
    · exact no_storesT h _ _
    · exact cel_stores h _
  refine PS.imp (ps_asg ha hg sw ss (by rw [each_cons hp]; rfl)) fun D σ H h => ?_
  obtain ⟨hid, ρ, env, S, hE, hs, h⟩ := h
  simp only [execS] at h
  refine tE.ofS hE hs h fun v S1 ρ1 H1 u e1 s1 r1 f1 h1 => ?_
  obtain ⟨env', hb, h2⟩ := h1.some
  exact ⟨hid, ρ1, env, S1, v, env', hE.mono e1, s1, r1, hb, fun σ' hE' _ => h2.pure s1 σ' hE'⟩
theorem sole_no {t e : Expr} {l : Nat} {env : PySem.Env} (h : noComp e = true ∨ noName t = true) : swapsWithSole [t] e l env = pure false := by
  show swapsWith e (some t) l env = _
  rcases h with h | h
  · exact no_swaps h _ _ _
  · exact no_swapT h _ _ _
theorem stores2 {x y : Str} {px py pt pt2 : Pos} {kt k2 : Nat} {a b : Expr} {env : PySem.Env} (hk : env.blockKind = .function) (hx : env.kindOf x = some .local) (hy : env.kindOf y = some .local) (hl : (py.line == px.line) = true) (hne : (x == y) = false)
    (hp : [a, b].all plainE = true) (hf : [a, b].all (foldedForSure 8) = false) (ho : [a, b].all (constantsAlone 8) = false) : swappedStores [.Tuple [.Name x px, .Name y py] kt pt] (.Tuple [a, b] k2 pt2) env = pure (some [x, y]) := by
  have hp1 : plainE a = true := (by simp only [List.all_cons, Bool.and_eq_true] at hp; exact hp.1)
  have hp2 : plainE b = true := (by simp only [List.all_cons, Bool.and_eq_true] at hp; exact hp.2.1)
  have hl1 : py.line = px.line := by simpa using hl
  have hn1 : x ≠ y := by simpa using hne
  have hn2 : ¬ y = x := fun z => hn1 z.symm
  unfold swappedStores
  simp [hk, hx, hy, hl1, hn1, hn2, hf, ho, Expr.pos, List.filterMap_cons, List.eraseDups_cons]
  intro h
  rcases h with h | h
  · cases a <;> first | (cases h; done) | (cases hp1; done)
  · cases b <;> first | (cases h; done) | (cases hp2; done)
theorem stores3 {x y z : Str} {px py pz pt pt2 : Pos} {kt k2 : Nat} {a b d : Expr} {env : PySem.Env} (hk : env.blockKind = .function) (hx : env.kindOf x = some .local) (hy : env.kindOf y = some .local) (hz : env.kindOf z = some .local)
    (hl : (py.line == px.line) = true) (hl2 : (pz.line == px.line) = true) (hne : (x == y) = false) (hxz : (x == z) = false) (hyz : (y == z) = false)
    (hp : [a, b, d].all plainE = true) (hf : [a, b, d].all (foldedForSure 8) = false) (ho : [a, b, d].all (constantsAlone 8) = false) : swappedStores [.Tuple [.Name x px, .Name y py, .Name z pz] kt pt] (.Tuple [a, b, d] k2 pt2) env = pure (some [x, y, z]) := by
  have hp1 : plainE a = true := (by simp only [List.all_cons, Bool.and_eq_true] at hp; exact hp.1)
  have hp2 : plainE b = true := (by simp only [List.all_cons, Bool.and_eq_true] at hp; exact hp.2.1)
  have hp3 : plainE d = true := (by simp only [List.all_cons, Bool.and_eq_true] at hp; exact hp.2.2.1)
  have hl1 : py.line = px.line := by simpa using hl
  have hl3 : pz.line = px.line := by simpa using hl2
  have hn1 : x ≠ y := by simpa using hne
  have hn2 : ¬ y = x := fun z => hn1 z.symm
  have hn3 : x ≠ z := by simpa using hxz
  have hn4 : ¬ z = x := fun z => hn3 z.symm
  have hn5 : y ≠ z := by simpa using hyz
  have hn6 : ¬ z = y := fun z => hn5 z.symm
  unfold swappedStores
  simp [hk, hx, hy, hz, hl1, hl3, hn1, hn2, hn3, hn4, hn5, hn6, hf, ho, Expr.pos, List.filterMap_cons, List.eraseDups_cons]
  intro h
  rcases h with h | h | h
  · cases a <;> first | (cases h; done) | (cases hp1; done)
  · cases b <;> first | (cases h; done) | (cases hp2; done)
  · cases d <;> first | (cases h; done) | (cases hp3; done)
theorem s_par2 {i j : Nat} {x y : Str} {a b : Expr} {es : List E} {px py pt pt2 : Pos} {kt k2 : Nat} (hc : X.calm = true) (hN : X.N.Nodup) (hi : X.N[i]? = some x) (hj : X.N[j]? = some y) (hij : i ≠ j) (hk : X.env.blockKind = .function)
    (hx : X.env.kindOf x = some .local) (hy : X.env.kindOf y = some .local) (ha : PA X [a, b] (tEs X.K c es)) (hl : (py.line == px.line) = true) (hne : (x == y) = false)
    (hp : [a, b].all plainE = true) (hf : [a, b].all (foldedForSure 8) = false) (ho : [a, b].all (constantsAlone 8) = false) :
    PS X (.Assign [.Tuple [.Name x px, .Name y py] kt pt] (.Tuple [a, b] k2 pt2) pos) (tS X.K c W (.par [i, j] es)) := by
  refine PS.imp (ps_par hc hN hi hj hij hx hy ha (stores2 hk hx hy hl hne hp hf ho) (sole_no (.inl rfl))) fun D σ H h => ?_
  obtain ⟨hid, ρ, env, S, hE, hs, h⟩ := h
  simp only [execS] at h
  refine tEs.ofS hE hs h fun ys S1 ρ1 H1 vs e1 s1 r1 h1 => ?_
  obtain ⟨env', hb, h2⟩ := h1.some
  match ys, hb, r1 with
  | [u, w], hb, r1 =>
    simp only [setAll, Option.some.injEq] at hb
    subst hb
    simp only [RepL] at r1
    obtain ⟨v1, vr, ev, ru, v2, vr2, ev2, rw', ev3⟩ := r1
    subst ev3 ev2 ev
    exact ⟨v1, v2, rfl, h2.pure s1 _ (((hE.mono e1).set i ru.1 ru.2).set j rw'.1 rw'.2)⟩
  | [], hb, _ => simp [setAll] at hb
  | [_], hb, _ => simp [setAll] at hb
  | _ :: _ :: _ :: _, hb, _ => simp [setAll] at hb
theorem s_par3 {i j l : Nat} {x y z : Str} {a b d : Expr} {es : List E} {px py pz pt pt2 : Pos} {kt k2 : Nat} (hc : X.calm = true) (hN : X.N.Nodup) (hi : X.N[i]? = some x) (hj : X.N[j]? = some y) (hl' : X.N[l]? = some z) (hij : i ≠ j) (hil : i ≠ l) (hjl : j ≠ l) (hk : X.env.blockKind = .function)
    (hx : X.env.kindOf x = some .local) (hy : X.env.kindOf y = some .local) (hz : X.env.kindOf z = some .local) (ha : PA X [a, b, d] (tEs X.K c es))
    (hl : (py.line == px.line) = true) (hl2 : (pz.line == px.line) = true) (hne : (x == y) = false) (hxz : (x == z) = false) (hyz : (y == z) = false)
    (hp : [a, b, d].all plainE = true) (hf : [a, b, d].all (foldedForSure 8) = false) (ho : [a, b, d].all (constantsAlone 8) = false) :
    PS X (.Assign [.Tuple [.Name x px, .Name y py, .Name z pz] kt pt] (.Tuple [a, b, d] k2 pt2) pos) (tS X.K c W (.par [i, j, l] es)) := by
  refine PS.imp (ps_par3 hc hN hi hj hl' hij hil hjl hx hy hz ha (stores3 hk hx hy hz hl hl2 hne hxz hyz hp hf ho) (sole_no (.inl rfl))) fun D σ H h => ?_
  obtain ⟨hid, ρ, env, S, hE, hs, h⟩ := h
  simp only [execS] at h
  refine tEs.ofS hE hs h fun ys S1 ρ1 H1 vs e1 s1 r1 h1 => ?_
  obtain ⟨env', hb, h2⟩ := h1.some
  match ys, hb, r1 with
  | [u, w, q], hb, r1 =>
    simp only [setAll, Option.some.injEq] at hb
    subst hb
    simp only [RepL] at r1
    obtain ⟨v1, vr, ev, ru, v2, vr2, ev2, rw', v3, vr3, ev3, rq, ev4⟩ := r1
    subst ev4 ev3 ev2 ev
    exact ⟨v1, v2, v3, rfl, h2.pure s1 _ ((((hE.mono e1).set i ru.1 ru.2).set j rw'.1 rw'.2).set l rq.1 rq.2)⟩
  | [], hb, _ => simp [setAll] at hb
  | [_], hb, _ => simp [setAll] at hb
  | [_, _], hb, _ => simp [setAll] at hb
  | _ :: _ :: _ :: _ :: _, hb, _ => simp [setAll] at hb

/-! ### o[i] = e, name op= e -/
theorem set_ok {o i : Expr} (h : noSlice i = true) {env : PySem.Env} : ∀ v, assign (.Subscript o i pos) env v = (do
      let ov ← holding [v] (eval o env)
      let iv ← holding [v, ov] (eval i env)
      standAt pos
      holding [v, ov, iv] (setItem ov iv v)
      release [v, ov, iv] []) := by
  intro v
  cases i <;> first | rfl | (cases h; done)
theorem s_setIx {o i : Expr} {eo ei : E} {tpos : Pos} (hu : X.A.units + 65 < cLine) (ha : PE X xa (tE X.K c ea)) (ho : PE X o (tE X.K c eo)) (hi : PE X i (tE X.K c ei)) (hp : noSlice i = true) : PS X (.Assign [.Subscript o i tpos] xa pos) (tS X.K c W (.setIx eo ei ea)) := by
  refine PS.imp (ps_asg ha (pg_sub ho hi (set_Q (b := c.base) (by omega)) (set_ok hp)) (sole_no (.inr rfl)) (no_storesT rfl _ _) rfl) fun D σ H h => ?_
  obtain ⟨hid, ρ, env, S, hE, hs, h⟩ := h
  simp only [execS] at h
  refine tE.ofS hE hs h fun v S1 ρ1 H1 u e1 s1 r1 f1 h1 => ?_
  refine tE.ofS (hE.mono e1) s1 h1 fun x S2 ρ2 H2 xv e2 s2 r2 f2 h2 => ?_
  refine tE.ofS ((hE.mono e1).mono e2) s2 h2 fun y S3 ρ3 H3 yv e3 s3 r3 f3 h3 => ?_
  refine ⟨hid, ρ3, S3, x, y, v, s3, Rep.mono e3 _ _ r2, r3, Rep.mono e3 _ _ (Rep.mono e2 _ _ r1), ?_⟩
  obtain ⟨_, S4, q, hk⟩ := h3.bind
  rw [q]
  intro ρ4 H4 e4 s4
  exact (hk ρ4 H4 e4).pure s4 σ ((((hE.mono e1).mono e2).mono e3).mono e4)
/-- x op= y of two ints, of two texts -/
def rAug (K : PySem.W.Frag) (op : BOp) : TIp := fun v w H Q => ∃ hid ρ S x y z, SOk K hid ρ H S ∧ Rep K hid ρ H x v ∧ Rep K hid ρ H y w ∧ ((∃ a b, x = .int a ∧ y = .int b) ∨ ∃ a b, x = .str a ∧ y = .str b) ∧ QE.bin S op x y = some z ∧ ∀ u, Rep K hid ρ H z u → Q u H
def augOk : BOp → Bool
  | .add => true
  | .sub => true
  | _ => false
theorem ip_Q {op : BOp} (h : augOk op = true) : PIp X (opOf op) (rAug X.K op) := by
  intro pins s σ H v w vv wv Q I rv rw' hh
  obtain ⟨hid, ρ, S, x, y, z, so, rx, ry, k, e, q⟩ := hh
  rcases k with ⟨a, b, e1, e2⟩ | ⟨a, b, e1, e2⟩
  · subst e1 e2
    cases rx.int_
    cases ry.int_
    cases op with
    | add =>
      cases e
      exact ip_add pins s σ H _ _ vv wv Q I rv rw' ⟨a, b, rfl, rfl, q _ .of_int⟩
    | sub =>
      cases e
      exact ip_sub pins s σ H _ _ vv wv Q I rv rw' ⟨a, b, rfl, rfl, q _ .of_int⟩
    | _ => cases h
  · subst e1 e2
    simp only [Rep] at rx ry
    subst rx ry
    cases op with
    | add =>
      simp only [QE.bin, addV] at e
      split at e
      · cases e
        rename_i hz
        refine iop_add_str pins s σ H _ _ vv wv Q I rv rw' ⟨strOf a, strOf b, rfl, rfl, by rw [strOf_len, strOf_len, ← lim_eq]; exact hz, ?_⟩
        have := q (.str (strOf (a ++ b))) .of_str
        have e3 : strOf (a ++ b) = strOf a ++ strOf b := by
          show strOf (a ++ b) = (⟨(strOf a).cps ++ (strOf b).cps⟩ : Str)
          simp [strOf]
        rw [← e3]
        exact this
      · cases e
    | sub => simp [QE.bin, subV] at e
    | _ => cases h
theorem s_aug {i : Nat} {x : Str} {op : BOp} {pos' : Pos} (hop : augOk op = true) (hN : X.N.Nodup) (hi : X.N[i]? = some x) (hx : Loc X.env.scope x) (ha : PE X xa (tE X.K c ea)) (hf : X.fn x = true ∨ X.env.scope.names.lookup x = some .local) :
    PS X (.AugAssign (.Name x pos') (opOf op) xa pos) (tS X.K c W (.aug i op ea)) := by
  refine PS.imp (ps_aug hN hi hx ha (ip_Q hop) hf) fun D σ H h => ?_
  obtain ⟨hid, ρ, env, S, hE, hs, h⟩ := h
  simp only [execS] at h
  split at h
  · rename_i x0 hx0
    obtain ⟨v, hv, st, rx⟩ := hE.at_ _ _ hx0
    refine ⟨v, hv, ?_⟩
    refine tE.ofS hE hs h fun y S1 ρ1 H1 w e1 s1 r1 f1 h1 => ?_
    have fin : ((∃ a b, x0 = .int a ∧ y = .int b) ∨ ∃ a b, x0 = .str a ∧ y = .str b) → OutS X.K hid ρ1 H1 ((R.of (QE.bin S1 op x0 y) S1).bind fun z S2 => .ok (.nx, env.set i (some z.settle)) S2) (Fin X.K hid H D) (XW c W) → rAug X.K op v w H1 fun z H2 => D.nx (σ.set i (some z)) H2 := fun k h2 => by
      obtain ⟨z, hz, h3⟩ := h2.some
      exact ⟨hid, ρ1, S1, x0, y, z, s1, Rep.mono e1 _ _ rx, r1, k, hz, fun u ru => h3.pure s1 _ ((hE.mono e1).set i (st_settle z) ru.settle)⟩
    split at h1
    · exact fin (.inl ⟨_, _, rfl, rfl⟩) h1
    · exact fin (.inr ⟨_, _, rfl, rfl⟩) h1
    · exact h1.elim
  · exact h.elim
theorem s_ext {i : Nat} {x : Str} {pos' : Pos} (hN : X.N.Nodup) (hi : X.N[i]? = some x) (hx : Loc X.env.scope x) (ha : PE X xa (tE X.K c ea)) (hf : X.fn x = true ∨ X.env.scope.names.lookup x = some .local) :
    PS X (.AugAssign (.Name x pos') .Add xa pos) (tS X.K c W (.ext i ea)) := by
  refine PS.imp (ps_aug hN hi hx ha (iop_Q (b := c.base)) hf) fun D σ H h => ?_
  obtain ⟨hid, ρ, env, S, hE, hs, h⟩ := h
  simp only [execS] at h
  split at h
  · rename_i x0 hx0
    obtain ⟨v, hv, st, rx⟩ := hE.at_ _ _ hx0
    refine ⟨v, hv, ?_⟩
    refine tE.ofS hE hs h fun y S1 ρ1 H1 w e1 s1 r1 f1 h1 => ?_
    refine ⟨hid, ρ1, S1, x0, y, s1, Rep.mono e1 _ _ rx, r1, ?_⟩
    obtain ⟨z, S2, q, hk⟩ := h1.bind
    rw [q]
    intro ρ2 H2 e2 s2 u ru
    have hz : z = x0 := by
      unfold QE.extend at q
      split at q
      · split at q
        · split at q
          · cases q; rfl
          · cases q
        · cases q
      · cases q
    subst hz
    refine (hk ρ2 H2 e2).pure s2 _ ?_
    have := ((hE.mono e1).mono e2).set i st ru
    have hh : env.set i (some z) = env := by
      apply List.ext_getElem?
      intro j
      by_cases hj : i = j
      · subst hj
        rw [hx0]
        exact List.getElem?_set_self (List.getElem?_eq_some_iff.mp hx0).1
      · rw [List.getElem?_set_ne hj]
    rw [hh] at this
    exact this
  · exact h.elim

/-! ### the small ones -/
variable {xs ys : List Stmt} {ss tt : List Stm}
theorem s_expr (ha : PE X xa (tE X.K c ea)) (hn : noComp xa = true) : PS X (.Expr xa pos) (tS X.K c W (.expr ea)) := by
  refine PS.imp (ps_expr ha (no_swaps hn _ _ _)) fun D σ H h => ?_
  obtain ⟨hid, ρ, env, S, hE, hs, h⟩ := h
  simp only [execS] at h
  exact tE.ofS hE hs h fun v S1 ρ1 H1 u e1 s1 r1 f1 h1 => h1.pure s1 σ (hE.mono e1)
theorem s_ret (ha : PE X xa (tE X.K c ea)) : PS X (.Return (some xa) pos) (tS X.K c W (.ret ea)) := by
  refine PS.imp (ps_ret ha) fun D σ H h => ?_
  obtain ⟨hid, ρ, env, S, hE, hs, h⟩ := h
  simp only [execS] at h
  exact tE.ofS hE hs h fun v S1 ρ1 H1 u e1 s1 r1 f1 h1 => h1.pure s1 u r1 f1
theorem s_retN : PS X (.Return none pos) (tS X.K c W .retN) := by
  refine PS.imp ps_retN fun D σ H h => ?_
  obtain ⟨hid, ρ, env, S, hE, hs, h⟩ := h
  simp only [execS] at h
  exact h.pure hs _ .of_non trivial
theorem s_if (ht : PT X xa (tT X.K c ea)) (h1 : PSs X xs (tSs X.K c W ss)) (h2 : PSs X ys (tSs X.K c W tt)) : PS X (.If xa xs ys pos) (tS X.K c W (.if_ ea ss tt)) := by
  refine PS.imp (ps_if ht h1 h2) fun D σ H h => ?_
  obtain ⟨hid, ρ, env, S, hE, hs, h⟩ := h
  simp only [execS] at h
  refine tT.ofS hE hs h fun b S1 ρ1 H1 e1 s1 h1 => ?_
  cases b with
  | true => exact ⟨hid, ρ1, env, S1, hE.mono e1, s1, h1.mono fun z S2 ρ2 H2 e2 q => Fin.anti e1 q⟩
  | false => exact ⟨hid, ρ1, env, S1, hE.mono e1, s1, h1.mono fun z S2 ρ2 H2 e2 q => Fin.anti e1 q⟩
theorem s_pass : PS X (.Pass pos) (tS X.K c W .pass) := by
  refine PS.imp ps_pass fun D σ H h => ?_
  obtain ⟨hid, ρ, env, S, hE, hs, h⟩ := h
  simp only [execS] at h
  exact h.pure hs σ hE
theorem s_brk : PS X (.Break pos) (tS X.K c W .brk) := by
  refine PS.imp ps_break fun D σ H h => ?_
  obtain ⟨hid, ρ, env, S, hE, hs, h⟩ := h
  simp only [execS] at h
  exact h.pure hs σ hE
theorem s_cont : PS X (.Continue pos) (tS X.K c W .cont) := by
  refine PS.imp ps_continue fun D σ H h => ?_
  obtain ⟨hid, ρ, env, S, hE, hs, h⟩ := h
  simp only [execS] at h
  exact h.pure hs σ hE
/-- what no run comes to -/
theorem s_opq {st : Stmt} : PS X st (tS X.K c W .opq) := by
  refine PS.imp ps_never fun D σ H h => ?_
  obtain ⟨hid, ρ, env, S, hE, hs, h⟩ := h
  simp only [execS] at h
  exact h.elim
end
end QE

set_option Elab.async false
set_option linter.all false
set_option maxRecDepth 10000
set_option maxHeartbeats 1000000
/-! A def's run leaves the callers' cells without cells of its own. -/
namespace QE
mutual
theorem low_mono {a b : Nat} (h : a ≤ b) : ∀ v : Val, v.low a = true → v.low b = true
  | .non, _ => rfl
  | .bl _, _ => rfl
  | .int _, _ => rfl
  | .str _, _ => rfl
  | .kls _, _ => rfl
  | .fn _ _, _ => rfl
  | .exn _ _, _ => rfl
  | .tup xs, q => by simp only [Val.low] at q ⊢; exact lowL_mono h xs q
  | .ptup xs, q => by simp only [Val.low] at q ⊢; exact lowL_mono h xs q
  | .lst _ xs, q => by simp only [Val.low] at q ⊢; exact lowL_mono h xs q
  | .dic _ _ kvs, q => by simp only [Val.low] at q ⊢; exact lowD_mono h kvs q
  | .ref n, q => by simp only [Val.low, decide_eq_true_eq] at q ⊢; omega
theorem lowL_mono {a b : Nat} (h : a ≤ b) : ∀ xs : List Val, Val.lowL a xs = true → Val.lowL b xs = true
  | [], _ => rfl
  | x :: xs, q => by simp only [Val.lowL, Bool.and_eq_true] at q ⊢; exact ⟨low_mono h x q.1, lowL_mono h xs q.2⟩
theorem lowD_mono {a b : Nat} (h : a ≤ b) : ∀ xs : List (Val × Val), Val.lowD a xs = true → Val.lowD b xs = true
  | [], _ => rfl
  | (k, x) :: xs, q => by simp only [Val.lowD, Bool.and_eq_true] at q ⊢; exact ⟨low_mono h x q.1, lowD_mono h xs q.2⟩
end
theorem low_settle {b : Nat} {v : Val} (h : v.settle.low b = true) : v.low b = true := by
  cases v <;> simpa only [Val.settle, Val.low] using h
theorem lowL_app {b : Nat} : ∀ {xs ys : List Val}, Val.lowL b xs = true → Val.lowL b ys = true → Val.lowL b (xs ++ ys) = true
  | [], _, _, h => h
  | x :: xs, ys, h, k => by
    simp only [List.cons_append, Val.lowL, Bool.and_eq_true] at h ⊢
    exact ⟨h.1, lowL_app h.2 k⟩
theorem lowL_set {b : Nat} {v : Val} (hv : v.low b = true) : ∀ {xs : List Val} (j : Nat), Val.lowL b xs = true → Val.lowL b (xs.set j v) = true
  | [], _, h => by simpa using h
  | x :: xs, 0, h => by simp only [List.set_cons_zero, Val.lowL, Bool.and_eq_true] at h ⊢; exact ⟨hv, h.2⟩
  | x :: xs, j + 1, h => by simp only [List.set_cons_succ, Val.lowL, Bool.and_eq_true] at h ⊢; exact ⟨h.1, lowL_set hv j h.2⟩
theorem lowD_app {b : Nat} : ∀ {xs ys : List (Val × Val)}, Val.lowD b xs = true → Val.lowD b ys = true → Val.lowD b (xs ++ ys) = true
  | [], _, _, h => h
  | (k, x) :: xs, ys, h, q => by
    simp only [List.cons_append, Val.lowD, Bool.and_eq_true] at h ⊢
    exact ⟨h.1, lowD_app h.2 q⟩
theorem lowD_map {b : Nat} {k v : Val} (hv : v.low b = true) : ∀ {xs : List (Val × Val)}, Val.lowD b xs = true → Val.lowD b (dMap k v xs) = true
  | [], h => by simpa [dMap] using h
  | (q, x) :: xs, h => by
    simp only [Val.lowD, Bool.and_eq_true] at h
    simp only [dMap]
    split
    · simp only [Val.lowD, Bool.and_eq_true]; exact ⟨hv, lowD_map hv h.2⟩
    · simp only [Val.lowD, Bool.and_eq_true]; exact ⟨h.1, lowD_map hv h.2⟩
theorem lowD_put {b : Nat} {k v : Val} (hv : v.low b = true) {xs : List (Val × Val)} (h : Val.lowD b xs = true) : Val.lowD b (dPut k v xs) = true := by
  unfold dPut
  split
  · exact lowD_map hv h
  · exact lowD_app h (by simp only [Val.lowD, hv, Bool.and_self])
def Ob.low (b : Nat) : Ob → Bool
  | .lst xs => Val.lowL b xs
  | .dic _ kvs => Val.lowD b kvs
  | .tbl _ _ => true
def LowAt (b : Nat) (S : Sto) : Prop := b ≤ S.length ∧ ∀ (n : Nat) (ob : Ob), n < b → S[n]? = some ob → ob.low b = true
def KeepR {α : Type} (b : Nat) (r : R α) : Prop := match r with
  | .ok _ S => LowAt b S
  | .exc _ _ S => LowAt b S
  | .bad => True
section
variable {α β : Type} {b : Nat}
theorem KeepR.bind {r : R α} {f : α → Sto → R β} (h : KeepR b r) (k : ∀ a S, LowAt b S → KeepR b (f a S)) : KeepR b (r.bind f) := by
  cases r with
  | ok a S => exact k a S h
  | exc c p S => exact h
  | bad => exact h
theorem KeepR.calm {r : R α} (h : KeepR b r) : KeepR b r.calm := by
  cases r with
  | ok a S => exact h
  | exc c p S => trivial
  | bad => trivial
theorem KeepR.of {o : Option α} {S : Sto} (h : LowAt b S) : KeepR b (R.of o S) := by
  cases o with
  | some a => exact h
  | none => trivial
theorem LowAt.set {S : Sto} {n : Nat} {ob : Ob} (h : LowAt b S) (k : n < b → ob.low b = true) : LowAt b (S.set n ob) := by
  refine ⟨by rw [List.length_set]; exact h.1, fun m o hm q => ?_⟩
  by_cases e : n = m
  · subst e
    rw [List.getElem?_set_self (by have := h.1; omega)] at q
    cases q
    exact k hm
  · rw [List.getElem?_set_ne e] at q
    exact h.2 m o hm q
theorem LowAt.push {S : Sto} {ob : Ob} (h : LowAt b S) : LowAt b (S ++ [ob]) := by
  refine ⟨by rw [List.length_append]; have := h.1; omega, fun m o hm q => ?_⟩
  rw [List.getElem?_append_left (by have := h.1; omega)] at q
  exact h.2 m o hm q
theorem LowAt.take {S : Sto} {m : Nat} (h : LowAt b S) (hm : b ≤ m) : LowAt b (S.take m) := by
  refine ⟨by rw [List.length_take]; have := h.1; omega, fun n o hn q => ?_⟩
  rw [List.getElem?_take_of_lt (by omega)] at q
  exact h.2 n o hn q
theorem may_low {base n : Nat} {v : Val} (h : mayPut base n v = true) (hb : b ≤ base) (hn : n < b) : v.low b = true := by
  unfold mayPut at h
  simp only [Bool.or_eq_true, decide_eq_true_eq] at h
  rcases h with h | h
  · omega
  · exact low_mono (Nat.zero_le _) v h
theorem keep_append {base : Nat} {S : Sto} {o v : Val} (hb : b ≤ base) (h : LowAt b S) : KeepR b (QE.append base S o v) := by
  unfold QE.append
  split
  · split
    · split
      · rename_i hc
        simp only [Bool.and_eq_true] at hc
        refine LowAt.set h fun hn => ?_
        have := h.2 _ _ hn (by assumption)
        exact lowL_app this (by simp only [Val.lowL, may_low hc.2 hb hn, Bool.and_self])
      · trivial
    · trivial
  · trivial
theorem keep_extend {base : Nat} {S : Sto} {o v : Val} (hb : b ≤ base) (h : LowAt b S) : KeepR b (QE.extend base S o v) := by
  unfold QE.extend
  split
  · rename_i n
    split
    · rename_i xs ys hq _
      split
      · rename_i hc
        simp only [Bool.and_eq_true, Bool.or_eq_true, decide_eq_true_eq] at hc
        refine LowAt.set h fun hn => ?_
        have := h.2 n _ hn hq
        rcases hc.2 with hc | hc
        · omega
        · exact lowL_app this (lowL_mono (Nat.zero_le _) _ hc)
      · trivial
    · trivial
  · trivial
theorem keep_setIx {base : Nat} {S : Sto} {o i v : Val} (hb : b ≤ base) (h : LowAt b S) : KeepR b (QE.setIx base S o i v) := by
  unfold QE.setIx
  split
  · rename_i n
    split
    · rename_i xs hq
      split
      · split
        · split
          · rename_i hc
            refine LowAt.set h fun hn => ?_
            exact lowL_set (may_low hc hb hn) _ (h.2 n _ hn hq)
          · trivial
        · trivial
      · trivial
    · rename_i t kvs hq
      split
      · rename_i hc
        simp only [Bool.and_eq_true] at hc
        refine LowAt.set h fun hn => ?_
        exact lowD_put (may_low hc.2 hb hn) (h.2 n _ hn hq)
      · trivial
    · trivial
  · trivial
theorem keep_cell {S : Sto} {v : Val} (h : LowAt b S) : KeepR b (newCell S v) := by
  unfold newCell
  split
  · exact h.push
  · exact h.push
  · trivial
theorem keep_asInt {v : Val} {S : Sto} (h : LowAt b S) : KeepR b (asInt v S) := by
  cases v <;> first | exact h | trivial
theorem keep_asBl {v : Val} {S : Sto} (h : LowAt b S) : KeepR b (asBl v S) := by
  cases v <;> first | exact h | trivial
theorem keep_range {x y : Int} {S : Sto} (h : LowAt b S) : KeepR b (rangeOf S x y) := by
  unfold rangeOf
  split
  · exact h
  · trivial
theorem keep_if {p : Prop} [Decidable p] {r s : R α} (h1 : KeepR b r) (h2 : KeepR b s) : KeepR b (if p then r else s) := by
  split
  · exact h1
  · exact h2
theorem keep_comp {tg : T} {test : Env → Sto → R Bool} {elt : Env → Sto → R Val} (h1 : ∀ env S, LowAt b S → KeepR b (test env S)) (h2 : ∀ env S, LowAt b S → KeepR b (elt env S)) (env : Env) : ∀ (xs : List Val) (S : Sto), LowAt b S → KeepR b (compLoop tg test elt env xs S)
  | [], S, h => h
  | x :: xs, S, h => by
    unfold compLoop
    split
    · trivial
    · refine (h1 _ S h).bind fun t S1 q1 => ?_
      cases t with
      | true => exact (h2 _ S1 q1).bind fun v S2 q2 => (keep_comp h1 h2 env xs S2 q2).bind fun vs S3 q3 => q3
      | false => exact keep_comp h1 h2 env xs S1 q1
theorem keep_compC {n : Nat} {all : List Val} {tg : T} {test : Env → Sto → R Bool} {elt : Env → Sto → R Val} (h1 : ∀ env S, LowAt b S → KeepR b (test env S)) (h2 : ∀ env S, LowAt b S → KeepR b (elt env S)) (env : Env) : ∀ (xs : List Val) (S : Sto), LowAt b S → KeepR b (compLoopC n all tg test elt env xs S)
  | [], S, h => by
    unfold compLoopC
    exact keep_if h trivial
  | x :: xs, S, h => by
    unfold compLoopC
    refine keep_if ?_ trivial
    split
    · trivial
    · refine (h1 _ S h).bind fun t S1 q1 => ?_
      cases t with
      | true => exact (h2 _ S1 q1).bind fun v S2 q2 => (keep_compC h1 h2 env xs S2 q2).bind fun vs S3 q3 => q3
      | false => exact keep_compC h1 h2 env xs S1 q1
theorem keep_dcomp {tg : T} {t : Bool} {kf vf : Env → Sto → R Val} (h1 : ∀ env S, LowAt b S → KeepR b (kf env S)) (h2 : ∀ env S, LowAt b S → KeepR b (vf env S)) (env : Env) : ∀ (xs : List Val) (acc : List (Val × Val)) (S : Sto), LowAt b S → KeepR b (dcompLoop tg t kf vf env xs acc S)
  | [], acc, S, h => h
  | x :: xs, acc, S, h => by
    unfold dcompLoop
    split
    · trivial
    · exact (h1 _ S h).bind fun k S1 q1 => (h2 _ S1 q1).bind fun v S2 q2 => keep_if (keep_dcomp h1 h2 env xs _ S2 q2) trivial
end
section
variable {b : Nat} {c : Ctx}
theorem keep_guard {g : Nat} {r : R Val} (h : KeepR b r) : KeepR b (guardR c g r) := by
  cases r with
  | ok a S => exact .of h
  | exc k ps S => exact .of h
  | bad => trivial
theorem keep_sub {k : Nat} {S : Sto} {v : Val} (h : LowAt b S) : KeepR b (subOf c k S v) := by
  unfold subOf
  split
  · exact keep_if ((KeepR.of h).bind fun _ _ q => q) trivial
  · trivial
end
section
variable {b : Nat} {c : Ctx} (hb : b ≤ c.base) (hc : ∀ f vs S, LowAt b S → KeepR b (c.call f vs S))
include hb hc
mutual
theorem keepE : ∀ (e : E) (env : Env) (S : Sto), LowAt b S → KeepR b (evalE c e env S)
  | .var i, env, S, h => by simp only [evalE]; split; exact h; trivial
  | .lit v, env, S, h => by simp only [evalE]; exact h
  | .con i, env, S, h => by simp only [evalE]; exact .of h
  | .bin op x y, env, S, h => by simp only [evalE]; exact (keepE x env S h).bind fun _ S1 q => (keepE y env S1 q).bind fun _ S2 q => .of q
  | .neg x, env, S, h => by simp only [evalE]; exact (keepE x env S h).bind fun _ S1 q => (keep_asInt q).bind fun _ _ q => q
  | .cmp op x y, env, S, h => by simp only [evalE]; exact (keepE x env S h).bind fun _ S1 q => (keepE y env S1 q).bind fun _ S2 q => (KeepR.of q).bind fun _ _ q => q
  | .chain o1 o2 x y z, env, S, h => by
    simp only [evalE]
    exact (keepE x env S h).bind fun _ S1 q => (keepE y env S1 q).bind fun _ S2 q => (KeepR.of q).bind fun _ S3 q => keep_if ((keepE z env S3 q).bind fun _ S4 q => (KeepR.of q).bind fun _ _ q => q) q
  | .and es, env, S, h => by simp only [evalE]; exact (keepAnd es env S h).bind fun _ _ q => q
  | .or es, env, S, h => by simp only [evalE]; exact (keepOr es env S h).bind fun _ _ q => q
  | .not x, env, S, h => by simp only [evalE]; exact (keepE x env S h).bind fun _ S1 q => (keep_asBl q).bind fun _ _ q => q
  | .ite t x y, env, S, h => by simp only [evalE]; exact (keepE t env S h).bind fun _ S1 q => (keep_asBl q).bind fun _ S2 q => keep_if (keepE x env S2 q) (keepE y env S2 q)
  | .tup es, env, S, h => by simp only [evalE]; exact (keepEs es env S h).bind fun _ S1 q => keep_if q trivial
  | .list es, env, S, h => by simp only [evalE]; exact (keepEs es env S h).bind fun _ S1 q => keep_if q trivial
  | .dnew t, env, S, h => by simp only [evalE]; exact h
  | .idx x y, env, S, h => by simp only [evalE]; exact (keepE x env S h).bind fun _ S1 q => (keepE y env S1 q).bind fun _ S2 q => .of q
  | .slice x l u, env, S, h => by simp only [evalE]; exact (keepE x env S h).bind fun _ S1 q => (keepO l env S1 q).bind fun _ S2 q => (keepO u env S2 q).bind fun _ S3 q => .of q
  | .call f es, env, S, h => by simp only [evalE]; exact (keepEs es env S h).bind fun _ S1 q => hc f _ S1 q
  | .bi f es, env, S, h => by simp only [evalE]; exact (keepEs es env S h).bind fun _ S1 q => .of q
  | .isi t x, env, S, h => by simp only [evalE]; exact (keepE x env S h).bind fun _ S1 q => (KeepR.of q).bind fun _ _ q => q
  | .meth m o x, env, S, h => by simp only [evalE]; exact (keepE o env S h).bind fun _ S1 q => (KeepR.of q).bind fun _ S2 q => (keepE x env S2 q).bind fun _ S3 q => .of q
  | .append o x, env, S, h => by simp only [evalE]; exact (keepE o env S h).bind fun _ S1 q => (KeepR.of q).bind fun _ S2 q => (keepE x env S2 q).bind fun _ S3 q => keep_append hb q
  | .comp own tg src ifs elt, env, S, h => by
    simp only [evalE]
    exact (keepSrc src env S h).bind fun _ S1 q => (keep_comp (fun env S h => keepAnd ifs env S h) (fun env S h => keepE elt env S h) _ _ S1 q).calm.bind fun _ S2 q => keep_if q trivial
  | .dcomp own tg src t k v, env, S, h => by
    simp only [evalE]
    exact (keepSrc src env S h).bind fun _ S1 q => (keep_dcomp (fun env S h => keepE k env S h) (fun env S h => keepE v env S h) _ _ _ S1 q).calm.bind fun _ S2 q => keep_if q trivial
  | .cell x, env, S, h => by simp only [evalE]; exact (keepE x env S h).bind fun _ S1 q => keep_cell q
  | .d1 t k v, env, S, h => by simp only [evalE]; exact (keepE k env S h).bind fun _ S1 q => (keepE v env S1 q).bind fun _ S2 q => keep_if q trivial
  | .get d k v, env, S, h => by simp only [evalE]; exact (keepE d env S h).bind fun _ S1 q => (KeepR.of q).bind fun _ S1 q => (keepE k env S1 q).bind fun _ S2 q => (keepE v env S2 q).bind fun _ S3 q => .of q
  | .trng x y, env, S, h => by simp only [evalE]; exact (keepE x env S h).bind fun _ S1 q => (keep_asInt q).bind fun _ S2 q => (keepE y env S2 q).bind fun _ S3 q => (keep_asInt q).bind fun _ S4 q => (keep_range q).bind fun _ S5 q => keep_if q trivial
  | .fn f, env, S, h => by simp only [evalE]; exact (KeepR.of h).bind fun _ _ q => q
  | .callV i es, env, S, h => by simp only [evalE]; exact (KeepR.of h).bind fun f S0 q => (keepEs es env S0 q).bind fun _ S1 q => hc f _ S1 q
  | .guard g j p q body, env, S, h => by simp only [evalE]; exact keep_if (keep_guard (keepX body env S h)) trivial
  | .isx x k, env, S, h => by simp only [evalE]; exact (keepE x env S h).bind fun v S1 q => keep_sub q
  | .rev x, env, S, h => by simp only [evalE]; exact (keepE x env S h).bind fun v S1 q => .of q
  | .compC own tg e ifs elt, env, S, h => by
    simp only [evalE]
    exact (keepE e env S h).bind fun _ S1 q => (KeepR.of q).bind fun p S2 q => (keep_compC (fun env S h => keepAnd ifs env S h) (fun env S h => keepE elt env S h) _ _ S2 q).calm.bind fun _ S3 q => keep_if q trivial
theorem keepX : ∀ (e : E) (env : Env) (S : Sto), LowAt b S → KeepR b (evalX c e env S)
  | .call f es, env, S, h => by simp only [evalX]; exact (keepEs es env S h).calm.bind fun _ S1 q => hc f _ S1 q
  | .callV i es, env, S, h => by simp only [evalX]; exact (KeepR.of h).bind fun f S0 q => (keepEs es env S0 q).calm.bind fun _ S1 q => hc f _ S1 q
  | .var _, _, _, _ | .lit _, _, _, _ | .con _, _, _, _ | .bin _ _ _, _, _, _ | .neg _, _, _, _ | .cmp _ _ _, _, _, _ | .chain _ _ _ _ _, _, _, _ | .and _, _, _, _ | .or _, _, _, _ | .not _, _, _, _ | .ite _ _ _, _, _, _ | .tup _, _, _, _ | .list _, _, _, _ => by simp only [evalX]; trivial
  | .dnew _, _, _, _ | .idx _ _, _, _, _ | .slice _ _ _, _, _, _ | .bi _ _, _, _, _ | .isi _ _, _, _, _ | .meth _ _ _, _, _, _ | .append _ _, _, _, _ | .comp _ _ _ _ _, _, _, _ | .dcomp _ _ _ _ _ _, _, _, _ | .cell _, _, _, _ | .fn _, _, _, _ | .guard _ _ _ _ _, _, _, _ | .isx _ _, _, _, _ | .d1 _ _ _, _, _, _ | .get _ _ _, _, _, _ | .trng _ _, _, _, _ | .rev _, _, _, _ | .compC _ _ _ _ _, _, _, _ => by simp only [evalX]; trivial
theorem keepEs : ∀ (es : List E) (env : Env) (S : Sto), LowAt b S → KeepR b (evalEs c es env S)
  | [], env, S, h => by simp only [evalEs]; exact h
  | e :: es, env, S, h => by simp only [evalEs]; exact (keepE e env S h).bind fun _ S1 q => (keepEs es env S1 q).bind fun _ S2 q => q
theorem keepO : ∀ (o : Option E) (env : Env) (S : Sto), LowAt b S → KeepR b (evalO c o env S)
  | none, env, S, h => by simp only [evalO]; exact h
  | some e, env, S, h => by simp only [evalO]; exact (keepE e env S h).bind fun _ S1 q => (keep_asInt q).bind fun _ _ q => q
theorem keepAnd : ∀ (es : List E) (env : Env) (S : Sto), LowAt b S → KeepR b (evalAnd c es env S)
  | [], env, S, h => by simp only [evalAnd]; exact h
  | e :: es, env, S, h => by simp only [evalAnd]; exact (keepE e env S h).bind fun _ S1 q => (keep_asBl q).bind fun _ S2 q => keep_if (keepAnd es env S2 q) q
theorem keepOr : ∀ (es : List E) (env : Env) (S : Sto), LowAt b S → KeepR b (evalOr c es env S)
  | [], env, S, h => by simp only [evalOr]; exact h
  | e :: es, env, S, h => by simp only [evalOr]; exact (keepE e env S h).bind fun _ S1 q => (keep_asBl q).bind fun _ S2 q => keep_if q (keepOr es env S2 q)
theorem keepSrc : ∀ (s : Src) (env : Env) (S : Sto), LowAt b S → KeepR b (evalSrc c s env S)
  | .it e, env, S, h => by simp only [evalSrc]; exact (keepE e env S h).bind fun _ S1 q => .of q
  | .rng1 x, env, S, h => by simp only [evalSrc]; exact (keepE x env S h).bind fun _ S1 q => (keep_asInt q).bind fun _ _ q => keep_range q
  | .rng2 x y, env, S, h => by simp only [evalSrc]; exact (keepE x env S h).bind fun _ S1 q => (keep_asInt q).bind fun _ S2 q => (keepE y env S2 q).bind fun _ S3 q => (keep_asInt q).bind fun _ _ q => keep_range q
  | .enum e, env, S, h => by simp only [evalSrc]; exact (keepE e env S h).bind fun _ S1 q => (KeepR.of q).bind fun _ _ q => q
  | .zip x y, env, S, h => by simp only [evalSrc]; exact (keepE x env S h).bind fun _ S1 q => (keepE y env S1 q).bind fun _ S2 q => (KeepR.of q).bind fun _ _ q => q
  | .zipL x y, env, S, h => by simp only [evalSrc]; exact (keepE x env S h).bind fun _ S1 q => (keepE y env S1 q).bind fun _ S2 q => (KeepR.of q).bind fun _ _ q => q
end
omit hb hc in
theorem keep_for {tg : T} {body : Env → Sto → R (Fl × Env)} (h1 : ∀ env S, LowAt b S → KeepR b (body env S)) : ∀ (xs : List Val) (env : Env) (S : Sto), LowAt b S → KeepR b (forLoop tg body xs env S)
  | [], env, S, h => h
  | x :: xs, env, S, h => by
    unfold forLoop
    split
    · trivial
    · refine (h1 _ S h).bind fun f S1 q => ?_
      split
      · exact keep_for h1 xs _ S1 q
      · exact keep_for h1 xs _ S1 q
      · exact q
      · exact q
omit hb hc in
theorem keep_while {test : Env → Sto → R Bool} {body : Env → Sto → R (Fl × Env)} (h0 : ∀ env S, LowAt b S → KeepR b (test env S)) (h1 : ∀ env S, LowAt b S → KeepR b (body env S)) : ∀ (n : Nat) (env : Env) (S : Sto), LowAt b S → KeepR b (whileLoop test body n env S)
  | 0, env, S, h => trivial
  | n + 1, env, S, h => by
    unfold whileLoop
    refine (h0 _ S h).bind fun t S0 q => ?_
    split
    · refine (h1 _ S0 q).bind fun f S1 q => ?_
      split
      · exact keep_while h0 h1 n _ S1 q
      · exact keep_while h0 h1 n _ S1 q
      · exact q
      · exact q
    · exact q
omit hb hc in
theorem keep_only {r : R (Fl × Env)} (h : KeepR b r) : KeepR b (onlyNx r) := by
  unfold onlyNx
  split
  · exact h
  · trivial
mutual
theorem keepS : ∀ (s : Stm) (env : Env) (S : Sto), LowAt b S → KeepR b (execS c s env S)
  | .asg tg e, env, S, h => by simp only [execS]; exact (keepE hb hc e env S h).calm.bind fun _ S1 q => (KeepR.of q).bind fun _ _ q => q
  | .par is es, env, S, h => by simp only [execS]; exact (keepEs hb hc es env S h).calm.bind fun _ S1 q => (KeepR.of q).bind fun _ _ q => q
  | .setIx o i e, env, S, h => by
    simp only [execS]
    exact (keepE hb hc e env S h).calm.bind fun _ S1 q => (keepE hb hc o env S1 q).calm.bind fun _ S2 q => (keepE hb hc i env S2 q).calm.bind fun _ S3 q => (keep_setIx hb q).calm.bind fun _ _ q => q
  | .aug i op e, env, S, h => by
    simp only [execS]
    split
    · refine (keepE hb hc e env S h).calm.bind fun _ S1 q => ?_
      split
      · exact (KeepR.of q).bind fun _ _ q => q
      · exact (KeepR.of q).bind fun _ _ q => q
      · trivial
    · trivial
  | .ext i e, env, S, h => by
    simp only [execS]
    split
    · exact (keepE hb hc e env S h).calm.bind fun _ S1 q => (keep_extend hb q).calm.bind fun _ _ q => q
    · trivial
  | .expr e, env, S, h => by simp only [execS]; exact (keepE hb hc e env S h).calm.bind fun _ S1 q => q
  | .ret e, env, S, h => by simp only [execS]; exact (keepE hb hc e env S h).calm.bind fun _ S1 q => q
  | .retN, env, S, h => by simp only [execS]; exact h
  | .if_ t x y, env, S, h => by simp only [execS]; exact (keepE hb hc t env S h).calm.bind fun _ S1 q => (keep_asBl q).bind fun _ S2 q => keep_if (keepSs x env S2 q) (keepSs y env S2 q)
  | .for_ tg src body, env, S, h => by simp only [execS]; exact (keepSrc hb hc src env S h).calm.bind fun _ S1 q => keep_for (fun env S h => keepSs body env S h) _ _ S1 q
  | .while_ t body, env, S, h => by simp only [execS]; exact keep_while (fun env S h => ((keepE hb hc t env S h).bind fun _ S1 q => keep_asBl q).calm) (fun env S h => keepSs body env S h) _ _ S h
  | .brk, env, S, h => by simp only [execS]; exact h
  | .cont, env, S, h => by simp only [execS]; exact h
  | .pass, env, S, h => by simp only [execS]; exact h
  | .raise_ k, env, S, h => by simp only [execS]; exact h
  | .xcall e, env, S, h => by simp only [execS]; exact (keepX hb hc e env S h).bind fun _ S1 q => q
  | .augIx o i op e, env, S, h => by
    simp only [execS]
    exact (keepE hb hc o env S h).calm.bind fun _ S1 q => (keepE hb hc i env S1 q).calm.bind fun _ S2 q => (KeepR.of q).bind fun _ S3 q => (keepE hb hc e env S3 q).calm.bind fun _ S4 q => (KeepR.of q).bind fun _ S5 q => (keep_setIx hb q).calm.bind fun _ _ q => q
  | .forD tg i body, env, S, h => by
    simp only [execS]
    exact (KeepR.of h).bind fun xs S1 q => keep_only (keep_for (fun env S h => keepSs body env S h) _ _ S1 q)
  | .opq, env, S, h => by simp only [execS]; trivial
theorem keepSs : ∀ (s : List Stm) (env : Env) (S : Sto), LowAt b S → KeepR b (execSs c s env S)
  | [], env, S, h => by simp only [execSs]; exact h
  | s :: ss, env, S, h => by
    simp only [execSs]
    refine (keepS s env S h).bind fun f S1 q => ?_
    split
    · exact keepSs ss _ S1 q
    · exact q
end
end
theorem keepFn {P : Prog} {b : Nat} : ∀ (k f : Nat) (vs : List Val) (S : Sto), LowAt b S → KeepR b (callFn P k f vs S)
  | 0, f, vs, S, h => trivial
  | k + 1, f, vs, S, h => by
    unfold callFn
    split
    · trivial
    · rename_i d hd
      refine keep_if ?_ trivial
      have := keepSs (c := ctxOf P (callFn P k) S.length) h.1 (fun f vs S h => keepFn k f vs S h) d.body (vs.map some ++ List.replicate (d.size - d.arity) none) S h
      revert this
      generalize execSs _ _ _ _ = r
      intro this
      unfold finish
      split
      · refine keep_if this ?_
        split
        · exact LowAt.take this h.1
        · exact this
      · exact LowAt.take this h.1
      · trivial
      · exact LowAt.take this h.1
      · trivial
end QE

set_option Elab.async false
set_option linter.all false
set_option maxRecDepth 10000
set_option maxHeartbeats 1000000
/-! o[i] op= e of a list, walks over dicts. -/
namespace QE
open PySem PySem.Spec PyProof.Rows L2
section
variable {K : PySem.W.Frag} {hid ρ : List Addr} {H : Hp} {d : Addr} {od : Obj} {ws : List (L2.Key × V)}
/-! ### a dict is locked -/
theorem rd_lock {a : Addr} {u : HO} (h : H d = some (.dK ws)) (r : Rd H a u) : Rd (upd H d (.frz od (.dK ws))) a u := by
  by_cases e : a = d
  · subst e
    rcases r with r | ⟨o, r⟩
    · rw [h] at r; cases r; exact .inr ⟨od, upd_same⟩
    · rw [h] at r; cases r
  · rcases r with r | ⟨o, r⟩
    · exact .inl (by rw [upd_ne e]; exact r)
    · exact .inr ⟨o, by rw [upd_ne e]; exact r⟩
theorem rd_open {a : Addr} {u : HO} (h : H d = some (.frz od (.dK ws))) (r : Rd H a u) (n : ∀ o x, u ≠ .frz o x) : Rd (upd H d (.dK ws)) a u := by
  by_cases e : a = d
  · subst e
    rcases r with r | ⟨o, r⟩
    · rw [h] at r; cases r; exact absurd rfl (n _ _)
    · rw [h] at r; cases r; exact .inl upd_same
  · rcases r with r | ⟨o, r⟩
    · exact .inl (by rw [upd_ne e]; exact r)
    · exact .inr ⟨o, by rw [upd_ne e]; exact r⟩
/-- the heap with another thing at d, plain values stand there alike -/
structure Swp (ρ : List Addr) (H H' : Hp) : Prop where
  rd : ∀ a u, (∀ o x, u ≠ .frz o x) → Rd H a u → Rd H' a u
  tup : ∀ a xs, H a = some (.tup xs) → H' a = some (.tup xs)
  frt : ∀ a o xs, H a = some (.frz o (.tup xs)) → H' a = some (.frz o (.tup xs))
theorem swp_lock (h : H d = some (.dK ws)) : Swp ρ H (upd H d (.frz od (.dK ws))) :=
  ⟨fun a u _ r => rd_lock h r, fun a xs e => by rw [upd_ne (fun z => by rw [z, h] at e; cases e)]; exact e, fun a o xs e => by rw [upd_ne (fun z => by rw [z, h] at e; cases e)]; exact e⟩
theorem swp_open (h : H d = some (.frz od (.dK ws))) : Swp ρ H (upd H d (.dK ws)) :=
  ⟨fun a u n r => rd_open h r n, fun a xs e => by rw [upd_ne (fun z => by rw [z, h] at e; cases e)]; exact e, fun a o xs e => by rw [upd_ne (fun z => by rw [z, h] at e; cases e)]; exact e⟩
variable {H' : Hp}
mutual
theorem Rep.swp (m : Swp ρ H H') : ∀ (x : Val) (v : V), x.st = true → Rep K hid ρ H x v → Rep K hid ρ H' x v
  | .non, v, _, h => by simp only [Rep] at h ⊢; exact h
  | .bl b, v, _, h => by simp only [Rep] at h ⊢; exact h
  | .int i, v, _, h => by simp only [Rep] at h ⊢; exact h
  | .str s, v, _, h => by simp only [Rep] at h ⊢; exact h
  | .tup xs, v, _, h => by
    simp only [Rep] at h ⊢
    obtain ⟨a, vs, h1, h2, h3⟩ := h
    exact ⟨a, vs, h1, m.tup _ _ h2, RepL.swp m xs vs h3⟩
  | .lst f xs, v, st, h => by
    cases f with
    | true => cases st
    | false =>
      simp only [Rep] at h ⊢
      obtain ⟨a, vs, h1, h2, h3, h4, h5⟩ := h
      exact ⟨a, vs, h1, m.rd _ _ (fun _ _ z => by cases z) h2, h3, h4, RepL.swp m xs vs h5⟩
  | .dic f true kvs, v, st, h => by
    cases f with
    | true => cases st
    | false =>
      simp only [Rep] at h ⊢
      obtain ⟨a, vs, h1, h2, h3, h4, h5⟩ := h
      exact ⟨a, vs, h1, m.rd _ _ (fun _ _ z => by cases z) h2, h3, h4, RepT.swp m kvs vs h5⟩
  | .dic f false kvs, v, st, h => by
    cases f with
    | true => cases st
    | false =>
      simp only [Rep] at h ⊢
      obtain ⟨a, vs, h1, h2, h3, h4, h5⟩ := h
      exact ⟨a, vs, h1, m.rd _ _ (fun _ _ z => by cases z) h2, h3, h4, RepK.swp m kvs vs h5⟩
  | .ref n, v, _, h => by simp only [Rep] at h ⊢; exact h
  | .kls ns, v, _, h => by simp only [Rep] at h ⊢; exact h
  | .fn _ _, v, _, h => by simp only [Rep] at h ⊢; exact h
  | .exn _ _, v, _, h => by simp only [Rep] at h ⊢; exact h
  | .ptup xs, v, _, h => by
    simp only [Rep] at h ⊢
    obtain ⟨a, vs, h1, ⟨o, h2, h4⟩, h3⟩ := h
    exact ⟨a, vs, h1, ⟨o, m.frt _ _ _ h2, h4⟩, RepL.swp m xs vs h3⟩
theorem RepL.swp (m : Swp ρ H H') : ∀ (xs : List Val) (vs : List V), RepL K hid ρ H xs vs → RepL K hid ρ H' xs vs
  | [], vs, h => by simp only [RepL] at h ⊢; exact h
  | x :: xs, vs, h => by
    simp only [RepL] at h ⊢
    obtain ⟨v, r, h1, h2, h3⟩ := h
    exact ⟨v, r, h1, ⟨h2.1, Rep.swp m x v h2.1 h2.2⟩, RepL.swp m xs r h3⟩
theorem RepK.swp (m : Swp ρ H H') : ∀ (xs : List (Val × Val)) (ws : List (L2.Key × V)), RepK K hid ρ H xs ws → RepK K hid ρ H' xs ws
  | [], vs, h => by simp only [RepK] at h ⊢; exact h
  | (k, x) :: xs, vs, h => by
    simp only [RepK] at h ⊢
    obtain ⟨v, r, h1, h4, h2, h3⟩ := h
    exact ⟨v, r, h1, h4, ⟨h2.1, Rep.swp m x v h2.1 h2.2⟩, RepK.swp m xs r h3⟩
theorem RepT.swp (m : Swp ρ H H') : ∀ (xs : List (Val × Val)) (ws : List (List L2.Key × V)), RepT K hid ρ H xs ws → RepT K hid ρ H' xs ws
  | [], vs, h => by simp only [RepT] at h ⊢; exact h
  | (k, x) :: xs, vs, h => by
    simp only [RepT] at h ⊢
    obtain ⟨v, r, h1, h4, h2, h3⟩ := h
    exact ⟨v, r, h1, h4, ⟨h2.1, Rep.swp m x v h2.1 h2.2⟩, RepT.swp m xs r h3⟩
end
theorem ERep.swp {env : Env} {σ : L2.St} (m : Swp ρ H H') (h : ERep K hid ρ H env σ) : ERep K hid ρ H' env σ :=
  ⟨h.len, fun i x q => let ⟨v, a, st, b⟩ := h.at_ i x q; ⟨v, a, st, Rep.swp m x v st b⟩⟩
/-- the cells stay as they are -/
theorem SOk.swp {S : Sto} {o' : HO} (s : SOk K hid ρ H S) (m : Swp ρ H (upd H d o')) (hd : d ∉ ρ) (nt : NT o') (hc : ∀ q, H d ≠ some (LamX.CodeO d q)) : SOk K hid ρ (upd H d o') S := by
  refine ⟨s.len, s.nd, s.apart, fun a ha => ?_, fun n ob q => ?_⟩
  · obtain ⟨o, h1, h2⟩ := s.hidd a ha
    by_cases e : a = d
    · subst e; exact ⟨o', upd_same, nt⟩
    · exact ⟨o, by rw [upd_ne e]; exact h1, h2⟩
  · obtain ⟨a, h1, h2⟩ := s.ob n ob q
    have ne : a ≠ d := fun z => by subst z; exact hd (List.mem_of_getElem? h1)
    refine ⟨a, h1, ?_⟩
    cases ob with
    | lst xs => obtain ⟨vs, e, r⟩ := h2; exact ⟨vs, by rw [upd_ne ne]; exact e, RepL.swp m _ _ r⟩
    | dic t kvs =>
      cases t
      · obtain ⟨vs, e, r⟩ := h2; exact ⟨vs, by rw [upd_ne ne]; exact e, RepK.swp m _ _ r⟩
      · obtain ⟨vs, e, r⟩ := h2; exact ⟨vs, by rw [upd_ne ne]; exact e, RepT.swp m _ _ r⟩
    | tbl p q =>
      obtain ⟨ep, ps, e, t, c⟩ := h2
      refine ⟨ep, ps, by rw [← ep, upd_ne ne, ep]; exact e, t, fun pos cv hcv => ?_⟩
      obtain ⟨c', e1, e2, e3⟩ := c pos cv hcv
      exact ⟨c', e1, e2, by rw [upd_ne (fun z => by subst z; exact hc _ e3)]; exact e3⟩
theorem ext_lock {ρ ρ' : List Addr} {H H1 : Hp} {d : Addr} {od : Obj} {ws : List (L2.Key × V)} (hd : d ∉ ρ) (h : H d = some (.dK ws)) (e : Ext ρ (upd H d (.frz od (.dK ws))) ρ' H1) : Ext ρ H ρ' (upd H1 d (.dK ws)) := by
  obtain ⟨new, e1, e2⟩ := e.more
  refine ⟨⟨new, e1, fun b hb o ho => ?_⟩, fun b o ho hb n => ?_, fun b o ho n => ?_, fun b xs ho => ?_, fun b o u ho => ?_⟩
  · by_cases z : b = d
    · subst z
      obtain ⟨ps, w⟩ := e2 b hb _ upd_same
      cases w
    · exact e2 b hb o (by rw [upd_ne z]; exact ho)
  · by_cases z : b = d
    · subst z; rw [upd_same, ← ho, h]
    · rw [upd_ne z]; exact e.keep0 b o (by rw [upd_ne z]; exact ho) hb n
  · by_cases z : b = d
    · subst z; exact ⟨_, upd_same, ntK⟩
    · rw [upd_ne z]; exact e.there0 b o (by rw [upd_ne z]; exact ho) n
  · have z : b ≠ d := fun z => by rw [z, h] at ho; cases ho
    rw [upd_ne z]; exact e.tups b xs (by rw [upd_ne z]; exact ho)
  · have z : b ≠ d := fun z => by rw [z, h] at ho; cases ho
    rw [upd_ne z]; exact e.frzs b o u (by rw [upd_ne z]; exact ho)
end
section
variable {X : Cx} {c : Ctx} {W : L2.WX} {pos : Pos}
theorem PS.or {e : Stmt} {t t' : TS} (h : PS X e t) (h' : PS X e t') : PS X e fun D σ H => t D σ H ∨ t' D σ H :=
  ⟨fun pins s σ H D I q => q.elim (fun q => h.run pins s σ H D I q) fun q => h'.run pins s σ H D I q⟩
theorem onlyNx_out {K : PySem.W.Frag} {hid ρ : List Addr} {H : Hp} {r : R (Fl × Env)} {G : Fl × Env → Sto → List Addr → Hp → Prop} {GX : Nat → Sto → List Addr → Hp → Prop} (h : OutS K hid ρ H (onlyNx r) G GX) : ∃ e S, r = .ok (.nx, e) S ∧ ∀ ρ' H', Ext ρ H ρ' H' → SOk K hid ρ' H' S → G (.nx, e) S ρ' H' := by
  unfold onlyNx at h
  split at h
  · exact ⟨_, _, rfl, h⟩
  · exact h.elim
theorem s_forD {tg : Expr} {x : Str} {p : Pos} {body : List Stmt} {i : Nat} {g : T} {bs : List Stm} (hp : PassesOwn (model X.prog X.w) X.A X.env X.xe) (hc : X.calm = true) (hN : X.N[i]? = some x) (hv : Vis X.env.scope x) (hd : (x == ("__debug__" : Str)) = false) (hcd : (x == ("__classdict__" : Str)) = false)
    (hg : PG X tg (tG X.K g)) (hb : PSs X body (tSs X.K c W bs)) : PS X (.For tg (.Name x p) body [] pos) (tS X.K c W (.forD g i bs)) := by
  have P := ps_for (pos := pos) hp hc (pi_keys (tg := tg) (pe_var (pos := p) hN hv hd hcd)) hg hb (no_fold (it := .Name x p) rfl X.env)
  refine PS.imp (PS.or (ps_lock P) P) fun D σ H h => ?_
  obtain ⟨hid, ρ, env, S, hE, hs, h⟩ := h
  simp only [execS] at h
  have hk : ∃ f kvs, env[i]? = some (some (.dic f false kvs)) ∧ OutS X.K hid ρ H (onlyNx (forLoop g (execSs c bs) (kvs.map fun p => p.1) env S)) (Fin X.K hid H D) (XW c W) := by
    unfold keysAt at h
    split at h
    · rename_i f kvs q
      exact ⟨f, kvs, q, h⟩
    · exact h.elim
  obtain ⟨f, kvs, q, h⟩ := hk
  obtain ⟨v, hσ, st, r⟩ := hE.at_ i _ q
  cases f with
  | true => cases st
  | false =>
    simp only [Rep] at r
    obtain ⟨a, ws, ev, hr, ha, hh, rk⟩ := r
    subst ev
    obtain ⟨e', S', ef, fin⟩ := onlyNx_out h
    rcases hr with hr | ⟨o, hr⟩
    · refine .inl ⟨a, .dK ws, hr, trivial, fun od => ?_⟩
      refine ⟨.ref a, hσ, a, od, rfl, .inl ⟨ws, upd_same, ?_⟩⟩
      have m : Swp ρ H (upd H a (.frz od (.dK ws))) := swp_lock hr
      have s1 : SOk X.K hid ρ (upd H a (.frz od (.dK ws))) S := hs.swp m ha (fun _ z => by cases z) (fun q z => by rw [hr] at z; cases z)
      refine for_read (c := c) (W := W) (ERep.swp m hE) s1 (WalkOk.keys upd_same (RepK.swp m _ _ rk)) ?_
      rw [ef]
      intro ρ1 H1 e1 s2
      have h1 : H1 a = some (.frz od (.dK ws)) := e1.frzs _ _ _ upd_same
      have m2 : Swp ρ1 H1 (upd H1 a (.dK ws)) := swp_open h1
      have ha1 : a ∉ ρ1 := e1.notin ha ⟨_, upd_same, fun _ z => by cases z⟩
      have s3 : SOk X.K hid ρ1 (upd H1 a (.dK ws)) S' := s2.swp m2 ha1 ntK (fun q z => by rw [h1] at z; cases z)
      have f1 := fin ρ1 _ (ext_lock ha hr e1) s3
      intro σ' hE'
      exact ⟨h1, f1 σ' (ERep.swp m2 hE')⟩
    · refine .inr ⟨.ref a, hσ, a, o, rfl, .inl ⟨ws, hr, ?_⟩⟩
      refine for_read (c := c) (W := W) hE hs (WalkOk.keys hr rk) ?_
      rw [ef]
      exact fin
/-! ### o[i] op= e -/
def rGet (K : PySem.W.Frag) : V → V → Hp → VK → Prop := fun o i H Q => ∃ hid ρ S x y k, SOk K hid ρ H S ∧ Rep K hid ρ H x o ∧ Rep K hid ρ H y i ∧ cellAt S x y = some k ∧ Q (.int k) H
theorem get_Q : PGet X (rGet X.K) := by
  intro pins s σ H o i ov iv Q I ro ri h
  obtain ⟨hid, ρ, S, x, y, k, so, rx, ry, e, q⟩ := h
  unfold cellAt at e
  split at e
  · rename_i n
    split at e
    · rename_i xs hq
      split at e
      · rename_i z k' hz
        cases e
        obtain ⟨a, ea, ha, ws, h4, r4⟩ := so.cell rx hq
        subst ea
        obtain ⟨j, ej, hj⟩ := itemOf_int hz
        subst ej
        cases ry.int_
        obtain ⟨v, hv, _, rv⟩ := r4.atI hj
        cases rv.int_
        obtain rfl : ov = .ref a := ro
        obtain ⟨t, rfl⟩ := ri
        obtain ⟨its, r, pl, hz⟩ := I.list (.inl (.inl h4))
        obtain ⟨j', h1, h2, h3, h4', h5⟩ := atI_get hv
        obtain ⟨w, ew, rw'⟩ := r.get h2
        have hl := r.length
        have hn := line63
        have fin : EP X pins σ Q w s := ⟨_, H, I, rw', q⟩
        by_cases h0 : 0 ≤ j
        · have hj : j.toNat = j' := by
            rw [seqIndex_of h0 h5] at h1
            exact Option.some.inj h1
          exact wpAny_getItem_list pl.isList h0 (by omega) (by rw [hj]; simpa using ew) fin
        · have hj : (j + (its.toArray.size : Int)).toNat = j' := by
            rw [seqIndex_neg (by omega) h4'] at h1
            rw [List.size_toArray, ← hl]
            exact Option.some.inj h1
          exact wpAny_getItem_list_neg pl.isList (by omega) (by rw [List.size_toArray] <;> omega) (by omega) (by rw [hj]; simpa using ew) fin
      · cases e
    · cases e
  · cases e
theorem aug_ok {i : Expr} (h : noSlice i = true) : ∀ ov iv new, augStore i ov iv new = (do holding [new, ov, iv] (setItem ov iv new); release [new, ov, iv] []; pure .next) := by
  intro ov iv new
  cases i <;> first | rfl | (cases h; done)
theorem s_augIx {o i xa : Expr} {eo ei ea : E} {op : BOp} {tpos : Pos} (hu : X.A.units + 65 < cLine) (hop : augOk op = true) (ho : PE X o (tE X.K c eo)) (hi : PE X i (tE X.K c ei)) (ha : PE X xa (tE X.K c ea)) (hp : noSlice i = true) :
    PS X (.AugAssign (.Subscript o i tpos) (opOf op) xa pos) (tS X.K c W (.augIx eo ei op ea)) := by
  refine PS.imp (ps_augS (X := X) ho hi get_Q ha (ip_Q hop) (set_Q (b := c.base) (by omega)) (aug_ok hp)) fun D σ H h => ?_
  obtain ⟨hid, ρ, env, S, hE, hs, h⟩ := h
  simp only [execS] at h
  refine tE.ofS hE hs h fun x S1 ρ1 H1 xv e1 s1 r1 f1 h1 => ?_
  refine tE.ofS (hE.mono e1) s1 h1 fun y S2 ρ2 H2 yv e2 s2 r2 f2 h2 => ?_
  obtain ⟨k, hk, h2⟩ := h2.some
  refine ⟨hid, ρ2, S2, x, y, k, s2, Rep.mono e2 _ _ r1, r2, hk, ?_⟩
  refine tE.ofS ((hE.mono e1).mono e2) s2 h2 fun z S3 ρ3 H3 zv e3 s3 r3 f3 h3 => ?_
  obtain ⟨w, hw, h3'⟩ := h3.some
  have hz : ∃ j, z = .int j ∧ QE.bin S3 op (.int k) (.int j) = some w := by
    cases op with
    | add => cases z <;> simp only [sumOf] at hw <;> first | (cases hw; done) | exact ⟨_, rfl, hw⟩
    | sub => cases z <;> simp only [sumOf] at hw <;> first | (cases hw; done) | exact ⟨_, rfl, hw⟩
    | _ => cases hop
  obtain ⟨j, ej, hb⟩ := hz
  subst ej
  refine ⟨hid, ρ3, S3, .int k, .int j, w, s3, .of_int, r3, .inl ⟨k, j, rfl, rfl⟩, hb, fun u ru => ?_⟩
  refine ⟨hid, ρ3, S3, x, y, w, s3, Rep.mono e3 _ _ (Rep.mono e2 _ _ r1), Rep.mono e3 _ _ r2, ru, ?_⟩
  obtain ⟨_, S4, q, hk⟩ := h3'.bind
  rw [q]
  intro ρ4 H4 e4 s4
  exact (hk ρ4 H4 e4).pure s4 σ ((((hE.mono e1).mono e2).mono e3).mono e4)
end
end QE

set_option Elab.async false
set_option linter.all false
set_option maxRecDepth 100000
set_option maxHeartbeats 2000000
/-! A list comprehension over zip of two lists within an except suite. -/
namespace QH
open PySem PySem.Spec PyProof.Rows L2 HotX L2H
section
variable {prog : Program} {w : World} {A : Around} {E : Value → Shared → Prop} {s : Shared}
/-- the record of the handled exception -/
def Quiet (h : Heap) (x : Addr) : Prop := ∃ (o : Obj) (vs : Array Value), h.get? x = some o ∧ o.data = .fields vs ∧ vs[2]? = some .none
theorem Quiet.mono {h h' : Heap} {x : Addr} (q : Quiet h x) (k : ∀ o, h.get? x = some o → h'.get? x = some o) : Quiet h' x := by
  obtain ⟨o, vs, e, d, c⟩ := q
  exact ⟨o, vs, k o e, d, c⟩
/-- a list's iterator at its end, an exception being handled -/
theorem next_end {it l x : Addr} {i : Nat} {items : Array Value} {Q : Value → Shared → Prop} (hA : A.handled = some (.ref x)) (q : Quiet s.heap x) (nx : x ≠ it)
    (at_ : s.heap.IsListIter it l i) (li : s.heap.IsList l items) (ends : items[i]? = none)
    (hE : ∀ h' e, Heap.ExtBut it s.heap h' → (∃ o, h'.get? e = some o ∧ o.cls = .type "StopIteration") → E (.ref e) { s with heap := h' }) :
    wpAny (model prog w) A (Builtin.SmallTypes.nextOf (.ref it)) Q E s := by
  obtain ⟨io, ige, icl, idt⟩ := id at_
  obtain ⟨lo, lge, _, ln, ldt⟩ := li
  unfold Builtin.SmallTypes.nextOf
  refine wpAny_bind (wpAny_callSpecial?_slot (name := Str.ofString "__next__") at_.typeIs slot_listiter_next (wpAny_call_entry slot_listiter_next at_.typeIs entry_listiter_next ?_ (args_listiter_next _)))
  show wpAny _ _ (field (.ref it) 0 >>= _) _ _ _
  refine wpAny_bind (wpAny_field ige idt (x := .ref l) rfl ?_)
  show wpAny _ _ (if (Value.ref l == Value.none) = true then _ else _) _ _ _
  rw [if_neg (show ¬ ((Value.ref l == Value.none) = true) from Bool.false_ne_true)]
  show wpAny _ _ (field (.ref it) 1 >>= _) _ _ _
  refine wpAny_bind (wpAny_field ige idt (x := .int i 0) rfl ?_)
  show wpAny _ _ (seqItems? (.ref l) >>= _) _ _ _
  refine wpAny_bind (wpAny_seqItems lge ldt ?_)
  simp only [Int.toNat_natCast, ends]
  refine wpAny_bind (wpAny_rule (wpAny_bind (wpAny_setField ige idt (by simp) ?_)))
  show wpAny _ _ (newExc (.type "StopIteration") [] >>= _) _ _ _
  refine wpAny_bind ?_
  simp only [newExc, newTuple]
  refine wpAny_bind (wpAny_newObj_type ?_ (by size_fits))
  refine wpAny_bind (m := firstArgMember _ _) (wpAny_of_eq (a := Value.none) (by first | rfl | (simp only [firstArgMember]; rfl)) ?_)
  refine wpAny_newObj_type ?_ (by size_fits)
  obtain ⟨xo, xs, xge, xdt, xc⟩ := q
  have keep := (Heap.SameBut.update (h := s.heap) (a := it) (f := Obj.mapFields (·.setIfInBounds 0 Value.none))).2 x nx
  have x2 := keep.trans xge
  refine raiseNew_hot (x1 := x) ⟨hA, xo, xs, Heap.get?_push_of_some _ (Heap.get?_push_of_some _ x2), xdt, xc⟩ (Nat.ne_of_lt (Heap.lt_size (Heap.get?_push_of_some _ x2))) (Heap.get?_push_size _ rfl) rfl (by simp only [Array.size_append, List.size_toArray, List.length_cons, List.length_nil] <;> omega) ?_
  refine hE _ _ (fun b o hb e => ?_) ⟨_, Heap.get?_update_self _ (Heap.get?_push_size _ rfl) rfl, rfl⟩
  have e2 := ((Heap.SameBut.update (h := s.heap) (a := it) (f := Obj.mapFields (·.setIfInBounds 0 Value.none))).2 b hb).trans e
  rw [Heap.get?_update_other _ _ (Nat.ne_of_gt (Heap.lt_size (Heap.get?_push_of_some _ e2)))]
  exact Heap.get?_push_of_some _ (Heap.get?_push_of_some _ e2)
/-- a list's iterator, by nextOf, beside the handled exception -/
theorem draws {it l x : Addr} (hA : A.handled = some (.ref x)) (nx : x ≠ it) (nl : l ≠ it) (items : Array Value) :
    Draws prog w A it [it, l, x] items.size (fun i v => items[i]? = some v) (fun i h => (h.IsListIter it l i ∧ h.IsList l items) ∧ Quiet h x) where
  live := fun _ _ st => let ⟨o, ho, _⟩ := st.1.1; ⟨o, ho⟩
  frame := fun _ _ _ st k => ⟨⟨st.1.1.at fun o e => k it (by simp) o e, st.1.2.at fun o e => k l (by simp) o e⟩, st.2.mono fun o e => k x (by simp) o e⟩
  item := fun i s Q E lt st hQ => by
    obtain ⟨⟨a1, a2⟩, a3⟩ := st
    exact wpAny_nextOf_list_item a1 a2 (x := items[i]) (by simp [lt]) fun h' b1 b2 => hQ _ h' s.toks (by simp [lt]) ⟨⟨b1, a2.extBut b2.extBut nl⟩, a3.mono fun o e => b2.extBut x o nx e⟩ b2
  done := fun s Q E st hE => next_end hA st.2 nx st.1.1 st.1.2 (by simp) hE
/-- .. from where it stands -/
theorem draws_at {it l x : Addr} (hA : A.handled = some (.ref x)) (nx : x ≠ it) (nl : l ≠ it) (items : Array Value) (i : Nat) : ∃ (n : Nat) (P : Nat → Value → Prop) (St : Nat → Heap → Prop), Draws prog w A it [it, l, x] n P St ∧
    (∀ h : Heap, h.IsListIter it l i → h.IsList l items → Quiet h x → St i h) ∧ i ≤ n ∧ (items[i]? = none → i = n) := by
  by_cases lt : i < items.size
  · exact ⟨_, _, _, draws hA nx nl items, fun h a b c => ⟨⟨a, b⟩, c⟩, Nat.le_of_lt lt, fun z => by simp [lt] at z⟩
  · have ends : items[i]? = none := by simp; omega
    refine ⟨i, fun _ _ => True, fun j h => j = i ∧ (h.IsListIter it l i ∧ h.IsList l items) ∧ Quiet h x, ⟨fun j h st => let ⟨o, ho, _⟩ := st.2.1.1; ⟨o, ho⟩, fun j h h' st k => ⟨st.1, ⟨st.2.1.1.at fun o e => k it (by simp) o e, st.2.1.2.at fun o e => k l (by simp) o e⟩, st.2.2.mono fun o e => k x (by simp) o e⟩,
      fun j s Q E lt st _ => ?_, fun s Q E st hE => next_end hA st.2.2 nx st.2.1.1 st.2.1.2 ends hE⟩, fun h a b c => ⟨rfl, ⟨a, b⟩, c⟩, Nat.le_refl _, fun _ => rfl⟩
    exact absurd lt (by have := st.1; omega)
/-- a tuple's iterator at its end -/
theorem pyNext_end {it l x : Addr} {i : Nat} {items : Array Value} {Q : Option Value → Shared → Prop} (hA : A.handled = some (.ref x)) (q : Quiet s.heap x) (nx : x ≠ it)
    (at_ : s.heap.IsTupleIter it l i) (li : s.heap.IsTuple l items) (ends : items[i]? = none) (hQ : ∀ h', Heap.ExtBut it s.heap h' → Q none { s with heap := h' }) : wpAny (model prog w) A (pyNext (.ref it)) Q E s := by
  obtain ⟨io, ige, icl, idt⟩ := id at_
  obtain ⟨lo, lge, _, ln, ldt⟩ := li
  unfold pyNext
  refine wpAny_bind (wpAny_attempt (wpAny_callSpecial?_slot (name := Str.ofString "__next__") at_.typeIs F.slot_tuple_iterator_next (wpAny_call_entry F.slot_tuple_iterator_next at_.typeIs F.entry_tuple_iterator_next ?_ (F.args_tuple_iterator_next_1 _))))
  show wpAny _ _ (field (.ref it) 0 >>= _) _ _ _
  refine wpAny_bind (wpAny_field ige idt (x := .ref l) rfl ?_)
  show wpAny _ _ (if (Value.ref l == Value.none) = true then _ else _) _ _ _
  rw [if_neg (show ¬ ((Value.ref l == Value.none) = true) from Bool.false_ne_true)]
  show wpAny _ _ (field (.ref it) 1 >>= _) _ _ _
  refine wpAny_bind (wpAny_field ige idt (x := .int i 0) rfl ?_)
  show wpAny _ _ (seqItems? (.ref l) >>= _) _ _ _
  refine wpAny_bind (wpAny_seqItems lge ldt ?_)
  simp only [Int.toNat_natCast, ends]
  refine wpAny_bind (wpAny_rule (wpAny_bind (wpAny_setField ige idt (by simp) ?_)))
  show wpAny _ _ (newExc (.type "StopIteration") [] >>= _) _ _ _
  refine wpAny_bind ?_
  simp only [newExc, newTuple]
  refine wpAny_bind (wpAny_newObj_type ?_ (by size_fits))
  refine wpAny_bind (m := firstArgMember _ _) (wpAny_of_eq (a := Value.none) (by first | rfl | (simp only [firstArgMember]; rfl)) ?_)
  refine wpAny_newObj_type ?_ (by size_fits)
  obtain ⟨xo, xs, xge, xdt, xc⟩ := q
  have keep := (Heap.SameBut.update (h := s.heap) (a := it) (f := Obj.mapFields (·.setIfInBounds 0 Value.none))).2 x nx
  have x2 := keep.trans xge
  refine raiseNew_hot (x1 := x) ⟨hA, xo, xs, Heap.get?_push_of_some _ (Heap.get?_push_of_some _ x2), xdt, xc⟩ (Nat.ne_of_lt (Heap.lt_size (Heap.get?_push_of_some _ x2))) (Heap.get?_push_size _ rfl) rfl (by simp only [Array.size_append, List.size_toArray, List.length_cons, List.length_nil] <;> omega) ?_
  refine wpAny_bind (wpAny_isInstance (T := "StopIteration") (b := true) ⟨_, Heap.get?_update_self _ (Heap.get?_push_size _ rfl) rfl, rfl⟩ isSubtype_stop ?_)
  refine wpAny_pure (hQ _ fun b o hb e => ?_)
  have e2 := ((Heap.SameBut.update (h := s.heap) (a := it) (f := Obj.mapFields (·.setIfInBounds 0 Value.none))).2 b hb).trans e
  rw [Heap.get?_update_other _ _ (Nat.ne_of_gt (Heap.lt_size (Heap.get?_push_of_some _ e2)))]
  exact Heap.get?_push_of_some _ (Heap.get?_push_of_some _ e2)
/-- a tuple is unpacked -/
theorem unpack_all {l x : Addr} {items : Array Value} {Q : List Value → Shared → Prop} (hA : A.handled = some (.ref x)) (q : Quiet s.heap x) (li : s.heap.IsTuple l items)
    (hQ : ∀ h', Heap.ExtBut s.heap.objs.size s.heap h' → Q items.toList { s with heap := h' }) : wpAny (model prog w) A (unpackItems (.ref l) items.size none) Q E s := by
  have ltl : l ≠ s.heap.objs.size := by obtain ⟨o, e, _⟩ := li; exact Nat.ne_of_lt (Heap.lt_size e)
  have ltx : x ≠ s.heap.objs.size := by obtain ⟨o, _, e, _⟩ := q; exact Nat.ne_of_lt (Heap.lt_size e)
  unfold unpackItems
  refine wpAny_bind ?_
  · unfold notIterableAtAll
    refine wpAny_bind (wpAny_specialOf li.typeIs F.slot_tuple_iter.lookup ?_)
    refine wpAny_pure ?_
    simp only [Bool.false_eq_true, if_false]
    refine wpAny_bind (wpAny_holding (wpAny_pyIter_tuple li ?_))
    refine wpAny_bind (wpAny_holding (wpAny_draw_tuple ltl items.size 0 _ _ ⟨_, Heap.get?_push_size _ rfl, rfl, rfl⟩ (li.push _) (by omega) fun h1 at1 sb1 => ?_))
    rw [show List.take items.size (List.drop 0 items.toList) = items.toList by rw [List.drop_zero]; exact List.take_of_length_le (by simp)]
    rw [if_neg (by simp)]
    have li1 : h1.IsTuple l items := (li.push _).extBut sb1.extBut ltl
    have q1 : Quiet h1 x := q.mono fun o e => sb1.extBut x o ltx (Heap.get?_push_of_some _ e)
    refine wpAny_bind (wpAny_holding (pyNext_end (x := x) hA q1 ltx at1 li1 (by simp) fun h2 sb2 => ?_))
    simp only [Option.isSome_none, Bool.false_eq_true, if_false]
    exact wpAny_pure (hQ h2 fun b o hb e => sb2 b o hb (sb1.extBut b o hb (Heap.get?_push_of_some _ e)))
end
section
variable {X : Cx}
theorem quiet {pins : List (Addr × Obj)} {σ : L2.St} {H : Hp} {s : Shared} (c : HotC X) (I : Inv X pins σ H s) : ∃ x, X.A.handled = some (.ref x) ∧ Quiet s.heap x ∧ ∃ o, (x, o) ∈ X.pn := by
  obtain ⟨p, ⟨hh, vs, d, c⟩, hp⟩ := c
  exact ⟨p.1, hh, ⟨p.2, vs, (I.pin p (List.mem_append_left _ hp)).1, d, c⟩, p.2, hp⟩
theorem pg_tupQ {es : List Expr} {k : Nat} {t : TGs} {n : Nat} {pos : Pos} (hc : HotC X) (h : PGs X es t) (hn : (assignEach es X.env).length = n) (hst : (assignEach es X.env).findIdx? (·.1) = none) : PG X (.Tuple es k pos) (gTup X.K n t) := by
  refine ⟨fun pins s σ H v u Q I r hw => ?_⟩
  obtain ⟨a, xs, e1, hq, hl, hw⟩ := hw
  subst e1
  cases r
  obtain ⟨its, rv, tp, _⟩ := I.tuple hq
  obtain ⟨x, hA, q, _⟩ := quiet hc I
  rw [assign_Tuple]
  refine wpAny_bind (wpAny_standAt ?_)
  unfold unpack
  have sz : (assignEach es X.env).length = its.toArray.size := by simp [hn, ← hl, rv.length]
  rw [sz, hst]
  refine wpAny_bind (wpAny_holding (unpack_all hA q tp fun h' ex => ?_))
  have I1 : Inv X pins σ H { s with heap := h' } := I.kept (t' := s.toks) fun b o e => ex b o (Nat.ne_of_lt (Heap.lt_size e)) e
  exact h.run pins _ σ H xs _ Q I1 (by simpa using rv) hw
end
end QH

set_option Elab.async false
set_option linter.all false
set_option maxRecDepth 100000
set_option maxHeartbeats 2000000
/-! Turns of zip over two lists within an except suite. -/
namespace QH
open PySem PySem.Spec PyProof.Rows L2 HotX L2H
/-- where a zip of two lists stands -/
def ZAt (z TI TO i1 i2 a b : Addr) (i : Nat) (h : Heap) : Prop := (IsZip h z TI TO .none ∧ IsPair h TI (.ref i1) (.ref i2)) ∧ ((∃ u v, IsPair h TO u v) ∧ (h.IsListIter i1 a i ∧ h.IsListIter i2 b i))
theorem five {z TI TO i1 i2 c : Addr} (h : c ∈ [z, TI, TO, i1, i2]) : c = z ∨ c = TI ∨ c = TO ∨ c = i1 ∨ c = i2 := by simpa using h
theorem turn_zipQ {P : Program} {w : World} {K : PySem.W.Frag} {elts : List Expr} {kk : Nat} {tpos : Pos} {a b z TI TO i1 i2 : Addr} (D : ZipApart z TI TO i1 i2 a b) : TurnH P w K (.Tuple elts kk tpos) (Itz K a b) [z, TI, TO, i1, i2] z (ZAt z TI TO i1 i2 a b) where
  mem := by simp
  obj := fun i h st c hc => by
    obtain ⟨⟨s1, s2⟩, ⟨u, v, s3⟩, ⟨o4, s4, _, d4⟩, ⟨o5, s5, _, d5⟩⟩ := st
    rcases five hc with q | q | q | q | q <;> subst q
    · exact ⟨_, s1, fun v q => nomatch q⟩
    · exact ⟨_, s2, fun v q => nomatch q⟩
    · exact ⟨_, s3, fun v q => nomatch q⟩
    · exact ⟨o4, s4, fun v q => by rw [d4] at q; cases q⟩
    · exact ⟨o5, s5, fun v q => by rw [d5] at q; cases q⟩
  keep := fun i h h' st k => by
    obtain ⟨⟨s1, s2⟩, ⟨u, v, s3⟩, s4, s5⟩ := st
    exact ⟨⟨k z (by simp) _ s1, k TI (by simp) _ s2⟩, ⟨u, v, k TO (by simp) _ s3⟩, s4.at fun o q => k i1 (by simp) o q, s5.at fun o q => k i2 (by simp) o q⟩
  item := by
    intro X hP hw hK hc i pins s σ H E I hf st hg
    subst hP hw hK
    obtain ⟨⟨s1, s2⟩, ⟨u0, v0, s3⟩, s4, s5⟩ := st
    obtain ⟨xs, ys, x, y, gx, gy, ex, ey⟩ := hg
    obtain ⟨l1, r1, p1, _⟩ := I.list gx
    obtain ⟨l2, r2, p2, _⟩ := I.list gy
    obtain ⟨u1, e1, t1⟩ := r1.get ex
    obtain ⟨u2, e2, t2⟩ := r2.get ey
    have zl : z < s.heap.objs.size := Heap.lt_size s1
    refine wpAny_pyNext_zip_item D s1 s2 s3 s4 s5 p1.isList p2.isList (x := u1) (y := u2) (by simpa using e1) (by simpa using e2) fun h1 a1 a3 a4 a5 new sz kp => ?_
    refine ⟨_, rfl, wpAny_letOwnedTupleGo_zip (s := { s with heap := h1 }) a1 fun h2 b1 sb => ?_⟩
    have new2 : h2.get? s.heap.objs.size = some { cls := .type "tuple", data := .seq #[u1, u2] } := (sb.2 _ (Nat.ne_of_gt zl)).trans new
    have ok : ObjOk X.prog X.w (upd H s.heap.objs.size (.tup [x, y])) h2 s.heap.objs.size (.tup [x, y]) := ⟨by show 2 ≤ sizeLine; decide, [u1, u2], .cons t1 (.cons t2 .nil), ⟨_, new2, rfl, _, rfl⟩⟩
    have J : Inv X pins σ (upd H s.heap.objs.size (.tup [x, y])) { s with heap := h2 } := I.turnedNew (t' := s.toks) (ch := [z, TI, TO, i1, i2]) (fun c o nc e => by
      have n1 : c ≠ z := fun q => nc (by simp [q])
      have n3 : c ≠ TO := fun q => nc (by simp [q])
      have n4 : c ≠ i1 := fun q => nc (by simp [q])
      have n5 : c ≠ i2 := fun q => nc (by simp [q])
      exact (sb.2 c n1).trans (kp c o n1 n3 n4 n5 e)) hf (Nat.le_refl _) ok
    refine ⟨.ref s.heap.objs.size, _, J, rfl, ⟨_, x, y, rfl, I.hok.fresh (Nat.le_refl _), rfl, fun l hl => by rw [I.list_inj hl gx]; exact ex, fun l hl => by rw [I.list_inj hl gy]; exact ey⟩, ⟨⟨b1, ?_⟩, ⟨u1, u2, ?_⟩, ?_, ?_⟩, fun c hcm => ?_⟩
    · exact (sb.2 _ D.TIz).trans (kp _ _ D.TIz D.TITO D.TIi1 D.TIi2 s2)
    · exact (sb.2 _ D.TOz).trans a3
    · exact a4.at fun o q => (sb.2 _ D.i1z).trans q
    · exact a5.at fun o q => (sb.2 _ D.i2z).trans q
    · have lt : c < s.heap.objs.size := by
        obtain ⟨_, q4, _⟩ := s4
        obtain ⟨_, q5, _⟩ := s5
        rcases five hcm with q | q | q | q | q <;> subst q
        · exact zl
        · exact Heap.lt_size s2
        · exact Heap.lt_size s3
        · exact Heap.lt_size q4
        · exact Heap.lt_size q5
      rw [upd_ne (Nat.ne_of_lt lt)]
      exact (hf c hcm).1
  done := by
    intro X hP hw hK hc i pins s σ H E I hf st hg
    subst hP hw hK
    obtain ⟨⟨s1, s2⟩, ⟨u0, v0, s3⟩, s4, s5⟩ := st
    obtain ⟨xs, ys, gx, gy, ends⟩ := hg
    obtain ⟨l1, r1, p1, _⟩ := I.list gx
    obtain ⟨l2, r2, p2, _⟩ := I.list gy
    obtain ⟨x, hA, q, o, hp⟩ := quiet hc I
    have nx : ∀ c ∈ [z, TI, TO, i1, i2], x ≠ c := fun c hcm => (hf c hcm).2.2.2.2.2 (x, o) (List.mem_append_left _ hp)
    have n1 := nx z (by simp)
    have n3 := nx TO (by simp)
    have n4 := nx i1 (by simp)
    have n5 := nx i2 (by simp)
    have nl1 : a ≠ i1 := D.l1i1
    have nl2 : b ≠ i2 := D.l2i2
    obtain ⟨m1, P1, S1, d1, b1, c1, f1⟩ := draws_at (prog := X.prog) (w := X.w) (A := X.A.in1) hA n4 nl1 l1.toArray i
    obtain ⟨m2, P2, S2, d2, b2, c2, f2⟩ := draws_at (prog := X.prog) (w := X.w) (A := X.A.in1) hA n5 nl2 l2.toArray i
    have S : ZipSep2 z TI TO i1 i2 [i1, a, x] [i2, b, x] := ⟨D.TIz, D.TOz, D.TITO, D.TIi1, by simp, by simp [D.i1z.symm, D.l1z.symm, Ne.symm n1], by simp [D.TOi1, D.l1TO.symm, Ne.symm n3], D.TIi2, by simp, by simp [D.i2z.symm, D.l2z.symm, Ne.symm n1], by simp [D.TOi2, D.l2TO.symm, Ne.symm n3],
      by simp [D.i12, D.l2i1.symm, Ne.symm n4], by simp [D.i12.symm, D.l1i2.symm, Ne.symm n5]⟩
    have en : i = m1 ∨ i = m2 := by
      have z1 := r1.length
      have z2 := r2.length
      rcases ends with q | q
      · exact .inl (f1 (by simp; omega))
      · exact .inr (f2 (by simp; omega))
    refine wpAny_pyNext_zipD2_end S d1 d2 s1 s2 s3 (b1 _ s4 p1.isList q) (b2 _ s5 p2.isList q) c1 c2 en fun h' tk kp => ⟨rfl, ?_⟩
    refine I.turnedL (t' := tk) (ch := [z, TI, TO, i1, i2]) (fun c o nc e => ?_) hf
    exact kp c o (fun q => nc (by simp [q])) (fun q => nc (by simp [q])) (fun q => nc (by simp [q])) (fun q => nc (by simp [q])) e
  self := fun A i s Q E st h => wpAny_pyIter_zip st.1.1 h
end QH

set_option Elab.async false
set_option linter.all false
set_option maxRecDepth 100000
set_option maxHeartbeats 2000000
/-! A list comprehension within an except suite. -/
namespace QH
open PySem PySem.Spec PyProof.Rows L2 HotX L2H
section
variable {X : Cx}
theorem pi_zipQ {e1 e2 : Expr} {ta : TA} {p pos tpos : Pos} {elts : List Expr} {kk : Nat} (hg : Gl X "zip") (hm : X.mg "zip" = none) (ha : PA X [e1, e2] ta) (hs : starEach [e1, e2] X.env = (false, eval e1 X.env) :: starEach [e2] X.env) (hp : (backTo pos (starEach [e2] X.env)).any (·.1) = false) :
    PIH X (.Tuple elts kk tpos) (.Call (.Name "zip" p) [e1, e2] [] pos) (iZip X.K ta) := by
  refine ⟨fun pins s σ H R I h => ?_⟩
  refine Call_ (ld_blt I hg hm PyProof.Rows.boot_zip (PyProof.Rows.callWith_type1 (thn (ha.run pos pins s σ H _ I h) fun us z1 hz => ?_) hs hp))
  obtain ⟨vs, G1, J1, rs, a, b, xs, ys, ev, gx, gy, q⟩ := hz
  subst ev
  cases rs with
  | cons ra rs =>
    cases rs with
    | cons rb rs =>
      cases rs
      cases ra
      cases rb
      obtain ⟨l1, _, p1, _⟩ := J1.list gx
      obtain ⟨l2, _, p2, _⟩ := J1.list gy
      refine call_zip_2 p1.isList p2.isList fun h' a1 a2 a3 a4 a5 _ kp => wpAny_pyIter_zip a1 ?_
      refine ⟨_, [z1.heap.objs.size + 4, z1.heap.objs.size + 2, z1.heap.objs.size + 3, z1.heap.objs.size, z1.heap.objs.size + 1], _, _, G1, rfl, J1.kept (t' := z1.toks) kp, turn_zipQ (PySem.W.ktu_apart z1.heap.objs.size a b p1.lt p2.lt), ⟨⟨a1, a2⟩, ⟨_, _, a3⟩, a4, a5⟩, fun c hc => ?_, q⟩
      have le : z1.heap.objs.size ≤ c := by rcases five hc with q | q | q | q | q <;> subst q <;> omega
      exact J1.fpOk le (J1.hok.fresh le)
/-- a block's context that bears the pins of what is around it -/
abbrev blkQ (X : Cx) (s : Shared) (H : Hp) (scope : Scope) (ce : PySem.Env) (fp : List Addr) : Cx := { X.blk s H scope ce fp with pn := X.pn }
theorem blkQ_hot {s : Shared} {H : Hp} {scope : Scope} {ce : PySem.Env} {fp : List Addr} (c : HotC X) : HotC (blkQ X s H scope ce fp) := c
theorem blkQ_start {pins : List (Addr × Obj)} {σ : L2.St} {H : Hp} {s : Shared} {scope : Scope} {own : List (Str × Nat)} {fp : List Addr} (I : Inv X pins σ H s) (ok : BlkOk X.N X.env.scope scope own) (hN : X.N.Nodup) (hfp : ∀ b ∈ fp, FpOk X pins H b ∧ b < s.heap.objs.size) :
    Inv (blkQ X s H scope (compEnvC scope (cellsFrom (s.heap.objs.size + 1) scope.names (cloFrom X.env.cells scope.names [])) s.heap.objs.size X.env) fp) [] (L2.wipe σ (own.map (·.2))) H { s with heap := pushCells (s.heap.push { cls := .type "dict", data := .dict #[] }) scope.names } := by
  have J := block_start I ok hN hfp
  refine ⟨⟨J.ok.mod, J.ok.kind, J.ok.glob, J.ok.blt, J.ok.above, J.ok.inj, J.ok.has, J.ok.cab, J.ok.hd, J.ok.frames, J.ok.stk, J.ok.exf, J.ok.bs, J.ok.bsz, J.ok.noex, J.ok.exfs, J.ok.funs, J.ok.frf⟩, J.os, J.bare, J.base, J.loc, J.cell, J.free, J.freeC, fun p hp => ?_, J.hok, J.len⟩
  have hp : p ∈ X.pn := by simpa using hp
  obtain ⟨h1, h2, h3, h4, h5⟩ := I.pin p (List.mem_append_left _ hp)
  refine ⟨pushCells_keeps _ _ _ _ (Heap.get?_push_of_some _ h1), h2, ?_, fun z => ?_, h5⟩
  · show p.1 ≠ s.heap.objs.size
    exact Nat.ne_of_lt (Heap.lt_size h1)
  · rcases List.mem_cons.mp (I.stkSub _ z) with q | q
    · exact h3 q
    · exact h4 q
theorem lcQ_core {pins : List (Addr × Obj)} {s : Shared} {σ : L2.St} {H : Hp} {Q : VK} {elt tg iter : Expr} {ifs : List Expr} {scope : Scope} {own : List (Str × Nat)} {pos pos' : Pos} {wi : TI} {g : TG} {tt : TT} {te : TE} {use : Option (Value → Sem Unit)} {Qf : Value → Shared → Prop}
    (hc : HotC X) (hN : X.N.Nodup) (I : Inv X pins σ H s) (hi : PIH X tg iter wi) (ok : BlkOk X.N X.env.scope scope own)
    (hg : ∀ (z : Shared) (G : Hp) (C : Addr) (cl : List (Str × Addr)) (fp : List Addr), PG (blkQ X z G scope (compEnvC scope cl C X.env) fp) tg g)
    (ht : ∀ (z : Shared) (G : Hp) (C : Addr) (cl : List (Str × Addr)) (fp : List Addr), PTs (blkQ X z G scope (compEnvC scope cl C X.env) fp) ifs tt)
    (he : ∀ (z : Shared) (G : Hp) (C : Addr) (cl : List (Str × Addr)) (fp : List Addr), PE (blkQ X z G scope (compEnvC scope cl C X.env) fp) elt te) (hs : ∀ x, foldedSetIterable iter X.env x = pure x)
    (h : tLc wi g tt te (own.map (·.2)) σ H Q)
    (post : ∀ D C z m G, Inv X pins σ G z → Q (.ref D) G → z.heap.Ns C m → FpOk X pins G C → compPost (model X.prog X.w) X.A X.xe use Qf (.ref D) C (.ok .next) z) :
    wpAny (model X.prog X.w) X.A (comprehension (.ListComp elt [⟨tg, iter, ifs, 0⟩] scope pos) scope X.env pos' (newList []) false (eval iter X.env) use) Qf X.xe s := by
  have cap : ∀ y ∈ scope.names, y.2 = .free → ∃ c, X.env.cells.lookup y.1 = some c := fun y hy e => (ok.free y hy e).elim (fun k => I.ok.has _ (.inl k)) fun k => I.ok.has _ (.inr k)
  refine wpAny_comprehension_free (use := use) rfl hs (closure_ok cap) ok.kind (fun y hy e => by rw [ok.uniq y hy, e])
    (thn (hi.run pins s σ H _ I h) fun xv z1 hx => thn hx fun itv z2 hit => ?_)
  obtain ⟨it, fp, tn, J, G2, e, J2, T, at0, fr2, q⟩ := hit
  subst e
  refine wpAny_newObj_type (newEnv_comp ?_) (by show 0 ≤ sizeLine; decide)
  generalize hD : z2.heap.objs.size = D
  have Dn : G2 D = none := J2.hok.fresh (Nat.le_of_eq hD)
  obtain ⟨W, ⟨m0, w0⟩, turn⟩ := q D Dn
  generalize hz3 : ({ z2 with heap := z2.heap.push { cls := .type "list", data := .seq ([] : List Value).toArray } } : Shared) = z3
  have J3 : Inv X pins σ (upd G2 D (.lst [])) z3 := by
    rw [← hz3]
    refine J2.laid (t' := z2.toks) (fun b o e => Heap.get?_push_of_some _ e) (Nat.le_of_eq hD) ⟨Nat.zero_le _, [], 0, .nil, ?_⟩
    rw [← hD]
    exact Heap.get?_push_size _ rfl
  have hp3 : z3.heap = z2.heap.push { cls := .type "list", data := .seq ([] : List Value).toArray } := by rw [← hz3]
  have fr3 : ∀ b ∈ fp, FpOk X pins (upd G2 D (.lst [])) b ∧ b < z3.heap.objs.size := fun b hb => by
    obtain ⟨ob, eb, _⟩ := T.obj _ _ at0 b hb
    have lt := Heap.lt_size eb
    refine ⟨⟨?_, (fr2 b hb).2⟩, by rw [hp3, Heap.size_push]; exact Nat.lt_succ_of_lt lt⟩
    rw [upd_ne (by rw [← hD]; exact Nat.ne_of_lt lt)]
    exact (fr2 b hb).1
  have at3 : tn 0 z3.heap := T.keep _ _ _ at0 fun b _ o e => by rw [hp3]; exact Heap.get?_push_of_some _ e
  have J4 := blkQ_start J3 ok hN fr3
  generalize hcl : cellsFrom (z3.heap.objs.size + 1) scope.names (cloFrom X.env.cells scope.names []) = cls at J4 ⊢
  have pg := hg z3 (upd G2 D (.lst [])) z3.heap.objs.size cls fp
  have pt := ht z3 (upd G2 D (.lst [])) z3.heap.objs.size cls fp
  have pv := he z3 (upd G2 D (.lst [])) z3.heap.objs.size cls fp
  show codeAny _ _ (.compStart (.ListComp elt [⟨tg, iter, ifs, 0⟩] scope pos) 0 (.ref it) (.ref D) (compEnvC scope cls z3.heap.objs.size X.env)) _ { z3 with heap := pushCells (z3.heap.push { cls := .type "dict", data := .dict #[] }) scope.names }
  have nf3 : ∀ b ∈ fp, (upd G2 D (.lst [])) b = none := fun b hb => (fr3 b hb).1.1
  generalize hce : compEnvC scope cls z3.heap.objs.size X.env = ce at J4 pg pt pv ⊢
  have hloc : ce.locals = z3.heap.objs.size := by subst hce; rfl
  generalize hG3 : upd G2 D (.lst []) = G3 at J3 J4 pg pt pv w0 nf3 fr3
  generalize hz4 : ({ z3 with heap := pushCells (z3.heap.push { cls := .type "dict", data := .dict #[] }) scope.names } : Shared) = z4 at J4 ⊢
  have at4 : tn 0 z4.heap := T.keep _ _ _ at3 fun b _ o e => by rw [← hz4]; exact pushCells_keeps _ _ _ _ (Heap.get?_push_of_some _ e)
  have hot : HotC (blkQ X z3 G3 scope ce fp) := blkQ_hot hc
  have own' : ∀ {σ' : L2.St} {H' : Hp} {s' : Shared}, Inv (blkQ X z3 G3 scope ce fp) [] σ' H' s' → (∀ b ∈ fp, H' b = none) → ∀ b ∈ fp, FpOk (blkQ X z3 G3 scope ce fp) [] H' b := fun {σ' H' s'} I' hn b hb =>
    ⟨hn b hb, (I'.ok.exf b hb).1, I'.ok.exfs b hb, .inl hb, fun x c e => (I'.ok.exf b hb).2 x c e, fun p hp => (fr3 b hb).1.2.2.2.2.2 p (List.mem_append_left _ (by simpa using hp))⟩
  have loop : codeAny (model X.prog X.w) X.A (.compLoop (.ListComp elt [⟨tg, iter, ifs, 0⟩] scope pos) 0 (.ref it) (.ref D) ce) (compPost (model X.prog X.w) X.A X.xe use Qf (.ref D) z3.heap.objs.size) z4 := by
    refine compLoop_any (fun n s' => ∃ i H', Inv (blkQ X z3 G3 scope ce fp) [] (L2.wipe σ (own.map (·.2))) H' s' ∧ tn i s'.heap ∧ (∀ b ∈ fp, H' b = none) ∧ W i n H') ?_ m0 ⟨0, G3, J4, at4, nf3, w0⟩
    rintro n z5 ⟨i, G5, J5, at5, nf5, w5⟩
    rcases turn i n G5 w5 with ⟨stop, qq⟩ | ⟨go, Nx, hNx, step⟩
    · refine thnF (T.done (blkQ X z3 G3 scope ce fp) rfl rfl rfl hot i [] z5 _ G5 (fun _ _ => False) J5 (own' J5 nf5) at5 stop) fun r z6 ⟨hr, J6⟩ => ?_
      subst hr
      have J7 : Inv X pins σ G5 z6 := J3.call' (ch := fp) J6.os J6.base J6.hok J6.bare fun b hb => ⟨(fr3 b hb).1.2.2.2.1, (fr3 b hb).1.2.1, (fr3 b hb).1.2.2.2.2.1, (fr3 b hb).1.2.2.2.2.2⟩
      have nC : G5 z3.heap.objs.size = none := hloc ▸ J6.free
      obtain ⟨m, hm, _⟩ := J6.loc
      have hm : z6.heap.Ns ce.locals m := hm
      rw [hloc] at hm
      exact post D z3.heap.objs.size z6 m G5 J7 qq hm (J3.fpOk (Nat.le_refl _) nC)
    · refine thnF (T.item (blkQ X z3 G3 scope ce fp) rfl rfl rfl hot i [] z5 _ G5 (fun _ _ => False) J5 (own' J5 nf5) at5 go) fun r z6 ⟨u, hr, h6⟩ => ?_
      subst hr
      refine thnF h6 fun _ z7 ⟨x, G7, J7, rx, yx, at7, nf7⟩ => ?_
      have J7' := J7.pinned (own' J7 nf7) (T.obj _ _ at7)
      refine thnF (pg.run _ z7 _ G7 x u _ J7' rx (step x G7 yx)) fun _ z8 ⟨σ8, G8, J8, hw8, q8⟩ => ?_
      refine thnF (pt.run _ z8 σ8 G8 _ J8 q8) fun b z9 ⟨G9, J9, q9⟩ => ?_
      have fin : ∀ {s' : Shared} {H' : Hp}, Inv (blkQ X z3 G3 scope ce fp) ([] ++ pinsAt fp z7.heap) σ8 H' s' → Nx H' → ∃ m, m < n ∧ ∃ i H', Inv (blkQ X z3 G3 scope ce fp) [] (L2.wipe σ (own.map (·.2))) H' s' ∧ tn i s'.heap ∧ (∀ b ∈ fp, H' b = none) ∧ W i m H' := fun {s' H'} I' nx => by
        obtain ⟨m', hm, w'⟩ := hNx H' nx
        have pin' : ∀ b ∈ fp, ∀ o, z7.heap.get? b = some o → s'.heap.get? b = some o ∧ H' b = none := fun b hb o e =>
          let p := I'.pin (b, o) (List.mem_append_right _ (List.mem_append_right _ (mem_pinsAt hb e)))
          ⟨p.1, p.2.1⟩
        have hl : (L2.wipe σ (own.map (·.2))).length = σ8.length := by rw [← hw8, wipe_length]
        refine ⟨m', hm, i + 1, H', (I'.unpinned (pins := [])).weak hl (fun j v e => (wipe_some (hw8 ▸ e)).1), T.keep _ _ _ at7 fun b hb o e => (pin' b hb o e).1, fun b hb => ?_, w'⟩
        obtain ⟨o, e, _⟩ := T.obj _ _ at7 b hb
        exact (pin' b hb o e).2
      cases b with
      | false =>
        simp only [Bool.false_eq_true, if_false] at q9 ⊢
        exact fin J9 q9
      | true =>
        simp only [if_true] at q9 ⊢
        refine thnF (pv.run _ z9 σ8 G9 _ J9 q9) fun v z10 ⟨yv, G10, J10, r10, acc, eD, za, nx⟩ => ?_
        exact app_ok (X := blkQ X z3 G3 scope ce fp) J10 eD za r10 fun z11 J11 => fin J11 nx
  exact codeAny_compStart_list loop (T.self X.A 0 _ _ _ at4 loop)
theorem pe_lcQ {elt tg iter : Expr} {ifs : List Expr} {scope : Scope} {own : List (Str × Nat)} {pos : Pos} {wi : TI} {g : TG} {tt : TT} {te : TE} (hc : HotC X) (hN : X.N.Nodup) (hi : PIH X tg iter wi) (ok : BlkOk X.N X.env.scope scope own)
    (hg : ∀ (z : Shared) (G : Hp) (C : Addr) (cl : List (Str × Addr)) (fp : List Addr), PG (blkQ X z G scope (compEnvC scope cl C X.env) fp) tg g)
    (ht : ∀ (z : Shared) (G : Hp) (C : Addr) (cl : List (Str × Addr)) (fp : List Addr), PTs (blkQ X z G scope (compEnvC scope cl C X.env) fp) ifs tt)
    (he : ∀ (z : Shared) (G : Hp) (C : Addr) (cl : List (Str × Addr)) (fp : List Addr), PE (blkQ X z G scope (compEnvC scope cl C X.env) fp) elt te) (hs : ∀ x, foldedSetIterable iter X.env x = pure x) :
    PE X (.ListComp elt [⟨tg, iter, ifs, 0⟩] scope pos) (tLc wi g tt te (own.map (·.2))) := by
  refine ⟨fun pins s σ H Q I h => ?_⟩
  rw [eval_ListComp]
  refine lcQ_core hc hN I hi ok hg ht he hs h fun D C z m G I' q hm f => ⟨m, hm, fun h'' sb => ?_⟩
  obtain ⟨f0, f1, f2, f3, f4, f5⟩ := f
  exact ⟨.ref D, G, I'.turned (t' := z.toks) (fun b o hb e => (sb.2 b hb).trans e) f0 f1 f3 f4 f5, rfl, q⟩
/-- name = [..] on one line, the name a local -/
theorem ps_setLcQ {i : Nat} {y : Str} {py : Pos} {elt tg iter : Expr} {ifs : List Expr} {scope : Scope} {own : List (Str × Nat)} {pos spos : Pos} {wi : TI} {g : TG} {tt : TT} {te : TE} (hc : HotC X) (hN : X.N.Nodup)
    (hy : X.N[i]? = some y) (hyl : X.env.scope.names.lookup y = some .local) (hsw : swapsWith (.ListComp elt [⟨tg, iter, ifs, 0⟩] scope pos) (some (.Name y py)) spos.line X.env = pure true) (hi : PIH X tg iter wi) (ok : BlkOk X.N X.env.scope scope own)
    (hg : ∀ (z : Shared) (G : Hp) (C : Addr) (cl : List (Str × Addr)) (fp : List Addr), PG (blkQ X z G scope (compEnvC scope cl C X.env) fp) tg g)
    (ht : ∀ (z : Shared) (G : Hp) (C : Addr) (cl : List (Str × Addr)) (fp : List Addr), PTs (blkQ X z G scope (compEnvC scope cl C X.env) fp) ifs tt)
    (he : ∀ (z : Shared) (G : Hp) (C : Addr) (cl : List (Str × Addr)) (fp : List Addr), PE (blkQ X z G scope (compEnvC scope cl C X.env) fp) elt te) (hs : ∀ x, foldedSetIterable iter X.env x = pure x) :
    PS X (.Assign [.Name y py] (.ListComp elt [⟨tg, iter, ifs, 0⟩] scope pos) spos) (tAsg (tLc wi g tt te (own.map (·.2))) (gName i)) := by
  refine ⟨fun pins s σ H D I h => ?_⟩
  rw [exec_Assign_Name_used _ _ _ _ hsw]
  refine wpAny_bind (wpAny_standAt (wpAny_bind ?_))
  show wpAny _ X.A (do let _ ← comprehension (.ListComp elt [⟨tg, iter, ifs, 0⟩] scope pos) scope X.env (firstIterPos [⟨tg, iter, ifs, 0⟩] pos) (newList []) false (eval iter X.env) (some (assign (.Name y py) X.env))) _ _ _
  have h : tLc wi g tt te (own.map (·.2)) σ H (fun x G => gName i x σ G D.nx) := h
  refine wpAny_bind (thn (lcQ_core (Qf := fun _ s' => SP X pins D .next s') hc hN I hi ok hg ht he hs h fun L C z m G I' q hm f => ?_) fun _ s' hq => wpAny_pure (wpAny_pure hq))
  show wpAny _ _ (assign (.Name y py) X.env (.ref L)) _ _ _
  refine wpAny_assign_Name (store_ok2 (v := V.ref L) I' hN hy (.inl hyl) rfl (fun s2 I2 ⟨a, sb, ha⟩ => ?_) (.inr hyl))
  obtain ⟨f0, f1, f2, f3, f4, f5⟩ := f
  have apart : C ≠ a := by
    rcases ha with z | z
    · rw [z]; exact f1
    · exact fun e => f4 y a z e.symm
  exact ⟨m, hm.sameBut sb apart, fun h3 sb3 => ⟨_, G, I2.turned (t' := s2.toks) (fun b o hb e => (sb3.2 b hb).trans e) f0 f1 f3 f4 f5, q⟩⟩
end
end QH

set_option Elab.async false
set_option linter.all false
set_option maxRecDepth 10000
set_option maxHeartbeats 1000000
/-! Calls that may raise, defs as values, raise, isinstance of a caught exception. -/
namespace QE
open PySem PySem.Spec PyProof.Rows L2
/-- a call that may raise: Z is what is wished of an exception -/
def tX (K : PySem.W.Frag) (c : Ctx) (e : E) (Z : XK) : TE := fun σ H Q => ∃ hid ρ env S, ERep K hid ρ H env σ ∧ SOk K hid ρ H S ∧
  OutS K hid ρ H (evalX c e env S) (fun x S' ρ' H' => ∀ v, Rep K hid ρ' H' x v → Fresh K hid ρ' H' S' H x v → Q v H') (fun k _ _ H' => ∀ C, c.cls k = some C → Z (.ref C) none H')
section
variable {X : Cx} {c : Ctx} {W : L2.WX} {Z : XK} {pos p p2 : Pos} {x y : Str} {fa : Addr} {fd : FuncData} {ps : List Str} {k f i : Nat} {xa : Expr} {xs : List Expr} {es : List E}
theorem x_read {σ : L2.St} {H : Hp} {Q : VK} (h : tX X.K c (.call f es) Z σ H Q) : tCall (spF X.K c.cls c.call f) [] Z (tEs X.K c es) σ H Q := by
  obtain ⟨hid, ρ, env, S, hE, hs, h⟩ := h
  simp only [evalX] at h
  refine tEs.ofS hE hs h fun ys S1 ρ1 H1 vs e1 s1 r1 h1 => ⟨hid, ρ1, S1, ys, s1, ?_, h1.mono fun z S2 ρ2 H2 e q u ru fu => q u ru (fu.anti e1)⟩
  rw [List.append_nil]
  exact r1
theorem x_call (F : FnOk X.prog X.w X.K X.mg X.base (L2N.CX X.prog X.w) k fa fd ps (spF X.K c.cls c.call f)) (hr : Room k X.A) (hg : Gl X x) (hm : X.mg x = some (.ref fa)) (hk : PySem.W.keepIn X.K (.ref fa) = true) (hb : Binds X.K fd ps []) (hx : Passes (L2N.CX X.prog X.w) X Z)
    (ha : PA X (xa :: xs) (tEs X.K c es)) (hdb : (x == ("__debug__" : Str)) = false) (hp : (xa :: xs).all plainE = true) : PE X (.Call (.Name x p) (xa :: xs) [] pos) (tX X.K c (.call f es) Z) := by
  have hp' := hp
  simp only [List.all_cons, Bool.and_eq_true] at hp'
  exact PE.imp (pe_call F hr hg hm hk hb .nil hx ha hdb (star_cons hp'.1 _ _) (star_none _ _ _ hp'.2)) fun σ H Q h => x_read h
theorem fnAt_ok {env : Env} {σ : L2.St} {K : PySem.W.Frag} {hid ρ : List Addr} {H : Hp} (hE : ERep K hid ρ H env σ) (h : fnAt c env i = some f) : ∃ a, c.adr f = some a ∧ σ[i]? = some (some (.ref a)) := by
  unfold fnAt at h
  split at h
  · rename_i g a q
    split at h
    · rename_i ha
      cases h
      obtain ⟨v, h1, _, h2⟩ := hE.at_ _ _ q
      simp only [Rep] at h2
      subst h2
      exact ⟨a, ha, h1⟩
    · cases h
  · cases h
/-- where the defs lie, and what they promise -/
def Fns (X : Cx) (c : Ctx) : Prop := ∀ f a, c.adr f = some a → ∃ k fd ps, FnOk X.prog X.w X.K X.mg X.base (L2N.CX X.prog X.w) k a fd ps (spF X.K c.cls c.call f) ∧ Room k X.A ∧ PySem.W.keepIn X.K (.ref a) = true ∧ Binds X.K fd ps []
theorem x_callV (A : Fns X c) (hN : X.N[i]? = some x) (hv : Vis X.env.scope x) (hx : Passes (L2N.CX X.prog X.w) X Z) (ha : PA X (xa :: xs) (tEs X.K c es)) (hdb : (x == ("__debug__" : Str)) = false) (hcd : (x == ("__classdict__" : Str)) = false) (hp : (xa :: xs).all plainE = true) :
    PE X (.Call (.Name x p) (xa :: xs) [] pos) (tX X.K c (.callV i es) Z) := by
  have hp' := hp
  simp only [List.all_cons, Bool.and_eq_true] at hp'
  refine ⟨fun pins s σ H Q I h => ?_⟩
  obtain ⟨hid, ρ, env, S, hE, hs, h⟩ := h
  simp only [evalX] at h
  obtain ⟨f, hf, h⟩ := h.some
  obtain ⟨a, ea, hσ⟩ := fnAt_ok hE hf
  obtain ⟨k, fd, ps, F, hr, hk, hb⟩ := A f a ea
  refine (pe_callL (i := i) (f := a) (E := Z) F hr hN hv hk hb .nil hx ha hdb hcd (star_cons hp'.1 _ _) (star_none _ _ _ hp'.2)).run pins s σ H Q I ⟨hσ, ?_⟩
  refine tEs.ofS hE hs h fun ys S1 ρ1 H1 vs e1 s1 r1 h1 => ⟨hid, ρ1, S1, ys, s1, ?_, h1.mono fun z S2 ρ2 H2 e q u ru fu => q u ru (fu.anti e1)⟩
  rw [List.append_nil]
  exact r1
theorem s_callV (A : Fns X c) (hN : X.N[i]? = some x) (hv : Vis X.env.scope x) (ha : PA X (xa :: xs) (tEs X.K c es)) (hdb : (x == ("__debug__" : Str)) = false) (hcd : (x == ("__classdict__" : Str)) = false) (hp : (xa :: xs).all plainE = true) :
    PE X (.Call (.Name x p) (xa :: xs) [] pos) (tE X.K c (.callV i es)) := by
  have hp' := hp
  simp only [List.all_cons, Bool.and_eq_true] at hp'
  refine ⟨fun pins s σ H Q I h => ?_⟩
  obtain ⟨hid, ρ, env, S, hE, hs, h⟩ := h
  simp only [evalE] at h
  obtain ⟨f, hf, h⟩ := h.some
  obtain ⟨a, ea, hσ⟩ := fnAt_ok hE hf
  obtain ⟨k, fd, ps, F, hr, hk, hb⟩ := A f a ea
  refine (pe_callL (i := i) (f := a) (E := E0) F hr hN hv hk hb .nil passN ha hdb hcd (star_cons hp'.1 _ _) (star_none _ _ _ hp'.2)).run pins s σ H Q I ⟨hσ, ?_⟩
  refine tEs.of hE hs h fun ys S1 ρ1 H1 vs e1 s1 r1 h1 => ⟨hid, ρ1, S1, ys, s1, ?_, (h1.mono fun z S2 ρ2 H2 e q u ru fu => q u ru (fu.anti e1)).toS⟩
  rw [List.append_nil]
  exact r1
theorem s_fn (hm : ∀ a, c.adr f = some a → X.mg x = some (.ref a)) (hg : Gl X x) (hd : (x == ("__debug__" : Str)) = false) : PE X (.Name x pos) (tE X.K c (.fn f)) := by
  refine ⟨fun pins s σ H Q I h => ?_⟩
  obtain ⟨hid, ρ, env, S, he, hs, h⟩ := h
  simp only [evalE] at h
  obtain ⟨a, e, h⟩ := h.some
  exact (pe_glob (v := .ref a) hg (hm a e) rfl hd).run pins s σ H Q I (fin_same hs h (by simp only [Rep]) trivial)
/-- a statement that is a call and may raise -/
theorem s_xcall (tk : L2N.Takes X W) (F : FnOk X.prog X.w X.K X.mg X.base (L2N.CX X.prog X.w) k fa fd ps (spF X.K c.cls c.call f)) (hr : Room k X.A) (hg : Gl X x) (hm : X.mg x = some (.ref fa)) (hk : PySem.W.keepIn X.K (.ref fa) = true) (hb : Binds X.K fd ps [])
    (ha : PA X (xa :: xs) (tEs X.K c es)) (hdb : (x == ("__debug__" : Str)) = false) (hp : (xa :: xs).all plainE = true) : PS X (.Expr (.Call (.Name x p) (xa :: xs) [] p2) pos) (tS X.K c W (.xcall (.call f es))) := by
  have hp' := hp
  simp only [List.all_cons, Bool.and_eq_true] at hp'
  refine PS.imp (ps_expr (pe_callS (E := WE W) F hr hg hm hk hb (fun σ => L2N.passAt tk σ) ha hdb (star_cons hp'.1 _ _) (star_none _ _ _ hp'.2)) (no_swaps rfl _ _ _)) fun D σ H h => ?_
  obtain ⟨hid, ρ, env, S, hE, hs, h⟩ := h
  simp only [execS, evalX] at h
  rw [R.bind_assoc] at h
  refine tEs.ofS hE hs h fun ys S1 ρ1 H1 vs e1 s1 r1 h1 => ⟨hid, ρ1, S1, ys, s1, r1, ?_⟩
  have h2 : OutS X.K hid ρ1 H1 (c.call f ys S1) (Gv X.K hid H1 fun _ H2 => D.nx σ H2) (XW c W) := h1.seq fun z S2 ρ2 H2 e2 s2 q u _ _ => q.pure s2 σ ((hE.mono e1).mono e2)
  revert h2
  generalize c.call f ys S1 = r
  intro h2
  cases r with
  | ok a S2 => exact h2
  | exc _ _ _ => exact fun ρ2 H2 e2 s2 C hC => h2 ρ2 H2 e2 s2 C hC σ
  | bad => exact h2.elim
/-- what the text must say of a class of exceptions that is raised -/
structure Rais (K : PySem.W.Frag) (C : Addr) : Prop where
  own : ∃ (bmB : List Value) (B newId initId : String), ExcBaseFacts B newId initId bmB ∧ PySem.W.excIn K C bmB newId = true
  kp : PySem.W.keepIn K (.ref C) = true
  sub : PySem.W.subIn K (.ref C) (.type "BaseException") = some true
  ty : PySem.W.typeIn K (.ref C) = some (.type "type")
theorem s_raise {C : Addr} {m : Str} {j : Nat} {pp : Pos} (hc : X.calm = true) (tk : L2N.Takes X W) (R : Rais X.K C) (hm : X.mg x = some (.ref C)) (hC : c.cls k = some C) (hg : Gl X x) (hd : (x == ("__debug__" : Str)) = false) :
    PS X (.Raise (some (.Call (.Name x p) [.Constant (.str m) j p2] [] pp)) none pos) (tS X.K c W (.raise_ k)) := by
  obtain ⟨bmB, B, n, i, F, q⟩ := R.own
  refine PS.imp (L2N.ps_raise hc tk (L2N.pmk_own F q hm R.kp (raises_own R.sub R.ty) hg hd)) fun D σ H h => ?_
  obtain ⟨hid, ρ, env, S, hE, hs, h⟩ := h
  simp only [execS] at h
  exact h ρ H (Ext.refl _ _) hs C hC σ
/-- a class by its name: an own one or a built-in -/
def ClsV (X : Cx) (x : Str) (u : V) (cv : Value) : Prop := (∀ pos, PE X (.Name x pos) (tC u)) ∧ ∀ w, RelV u w → w = cv
theorem s_isx {ea : E} {xb : Expr} {u : V} {cv : Value} (ex : x = PySem.Str.ofString "isinstance") (hg : Gl X x) (hm : X.mg x = none) (hn : x ≠ "__name__") (hdb : (x == ("__debug__" : Str)) = false) (ha : PE X xb (tE X.K c ea)) (hp : plainE xb = true) (hy : ClsV X y u cv)
    (hS : ∀ k' a D b, c.exn = some (k', a) → c.cls k' = some D → c.sub k' k = some b → PySem.W.kitOne X.K (.ref D) cv = some b)
    (hC : ∀ k' a, c.exn = some (k', a) → ∃ D, c.cls k' = some D ∧ CallR X (.builtin "isinstance") (rIsE X.K D a)) :
    PE X (.Call (.Name x p) [xb, .Name y p2] [] pos) (tE X.K c (.isx ea k)) := by
  have b1 : bootBuiltins x = some (.builtin "isinstance") := by rw [ex]; decide +kernel
  refine ⟨fun pins s σ H Q I h => ?_⟩
  cases he : c.exn with
  | none =>
    obtain ⟨hid, ρ, env, S, hE, hs, h⟩ := h
    simp only [evalE] at h
    obtain ⟨z, S1, q, hk⟩ := h.bind
    have := hk ρ H (Ext.refl _ _)
    unfold subOf at this
    split at this
    · rw [he, if_neg (by intro z; cases z)] at this
      exact this.elim
    · exact this.elim
  | some ka =>
    obtain ⟨k', a⟩ := ka
    obtain ⟨D, hD, cr⟩ := hC k' a he
    refine (pe_callB cr hg hm b1 (pa_cons ha (pa_cons (hy.1 p2) pa_nil (star_cons rfl _ _)) (star_cons hp _ _)) hn hdb (star_cons hp _ _) (star_none _ _ _ rfl)).run pins s σ H Q I ?_
    obtain ⟨hid, ρ, env, S, hE, hs, h⟩ := h
    simp only [evalE] at h
    refine tE.of hE hs h fun z S1 ρ1 H1 v e1 s1 r1 f1 h1 => ?_
    unfold subOf at h1
    split at h1
    · rename_i k2 a2
      split at h1
      · rename_i hq
        rw [he] at hq
        cases hq
        obtain ⟨b, hb, h2⟩ := h1.some
        simp only [Rep] at r1
        subst r1
        exact ⟨u, cv, b, rfl, hy.2, hS _ _ _ _ he hD hb, h2.pure s1 _ .of_bl trivial⟩
      · exact h1.elim
    · exact h1.elim
end
end QE

set_option Elab.async false
set_option linter.all false
set_option maxRecDepth 10000
set_option maxHeartbeats 1000000
/-! A lambda without parameters handed to a def that calls it and catches: exceptions whose context is None. -/
namespace QE
open PySem PySem.Spec PyProof.Rows L2 LamX
section
variable {X : Cx} {pins : List (Addr × Obj)} {σ : L2.St} {H HZ : Hp} {s s1 : Shared}
/-- the context of the lambda's body -/
abbrev lamQ (X : Cx) (A : Around) (outer : List PySem.Env) (s : Shared) (H : Hp) (Z : XK) (scope : Scope) (f c' : Addr) : Cx :=
  { lamCx X A outer s H Z scope f c' with xe := fun e s' => wpAny (model X.prog X.w) (A.deeper (lamEnv X scope s.heap.objs.size f c')) (leaving (lamEnv X scope s.heap.objs.size f c') e) (fun _ s'' => L2N.CX X.prog X.w outer H s Z e s'') (fun e' s'' => L2N.CX X.prog X.w outer H s Z e' s'') s' }
theorem inv_xe {xe : Value → Shared → Prop} (I : Inv X pins σ H s) : Inv { X with xe := xe } pins σ H s :=
  ⟨⟨I.ok.mod, I.ok.kind, I.ok.glob, I.ok.blt, I.ok.above, I.ok.inj, I.ok.has, I.ok.cab, I.ok.hd, I.ok.frames, I.ok.stk, I.ok.exf, I.ok.bs, I.ok.bsz, I.ok.noex, I.ok.exfs, I.ok.funs, I.ok.frf⟩, I.os, I.bare, I.base, I.loc, I.cell, I.free, I.freeC, I.pin, I.hok, I.len⟩
theorem lamQ_takes {A : Around} {outer : List PySem.Env} {Z : XK} {scope : Scope} {f c' : Addr} : L2N.Takes (lamQ X A outer s H Z scope f c') (fun cls d _ H => Z cls d H) := L2N.takes_of rfl rfl rfl rfl
/-- the lambda is called by the def that got it -/
theorem act {Ng : List Str} {x : Str} {sg : Scope} {ga f c' : Addr} {cdg pm ctv : Value} {params : Arguments} {body : Expr} {scope : Scope} {k : Nat} {a : Str} {pn : List (Addr × Obj)} {xe : Value → Shared → Prop} {W : WX} {Z : XK} {tb : TE} {p1 p2 : Pos}
    (I : Inv X pins σ H s) (L : LamS X.env.scope scope) (hf : s.heap.get? f = some (PySem.W.kla_obj "<lambda>" (X.env.qual ++ "<lambda>") params body scope (cloFrom X.env.cells scope.names []) pm c' ctv)) (hfn : H f = none) (hfr : f ∉ frs X.stack)
    (hbind : bindArgs (PySem.W.kla_fn "<lambda>" (X.env.qual ++ "<lambda>") params body scope (cloFrom X.env.cells scope.names []) pm (.ref c') ctv) ⟨[], []⟩ = pure [])
    (tk : L2N.Takes ((cxOf C8.CX0 X.prog X.w X.K X.mg X.base Ng x sg ga cdg X.A X.stack s H C8.E0).tr pn xe) W) (hW : ∀ cls d σ' H', Z cls d H' → W cls d σ' H') (hr : Room (k + 1) (X.A.deeper (envOfC x sg s.heap.objs.size ga cdg)))
    (hbody : ∀ (A : Around) (outer : List PySem.Env) (s : Shared) (H : Hp), Room k (A.deeper (lamEnv X scope s.heap.objs.size f c')) → PE (lamQ X A outer s H Z scope f c') body tb)
    (hN : Ng[0]? = some a) (hv : Vis sg a) (hd : (a == ("__debug__" : Str)) = false) (hcd : (a == ("__classdict__" : Str)) = false) :
    PE ((cxOf C8.CX0 X.prog X.w X.K X.mg X.base Ng x sg ga cdg X.A X.stack s H C8.E0).tr pn xe) (.Call (.Name a p1) [] [] p2)
      (fun σZ HZ Q => σZ[0]? = some (some (.ref f)) ∧ HZ c' = some (CodeO c' (X.env.qual ++ "<lambda>")) ∧ tb σ HZ Q) := by
  refine ⟨fun pinsY sY σY HY Q IY h => ?_⟩
  obtain ⟨slot, code, ht⟩ := h
  refine wpAny_Call_Name_kw (thn ((pe_var (pos := p1) (i := 0) hN hv hd hcd).run pinsY sY σY HY (fun v G => v = .ref f ∧ G = HY) IY ⟨.ref f, slot, rfl, rfl⟩) fun u s1 ⟨v, G, I1, ru, ev, eG⟩ => ?_)
  subst ev
  rw [eG] at I1
  obtain rfl : u = Value.ref f := ru
  have there : s1.heap.get? f = some (PySem.W.kla_obj "<lambda>" (X.env.qual ++ "<lambda>") params body scope (cloFrom X.env.cells scope.names []) pm c' ctv) := I1.base.keep f _ hf hfn hfr (fun z => nomatch (show f ∈ ([] : List Addr) from z))
  refine PySem.W.callWith_F0 ⟨_, _, _, _, there⟩ ?_
  have un : Un (frs X.stack) [] H HY s.heap s1.heap := I1.base
  obtain ⟨⟨oc, vs, t, hoc, hdc, hvc⟩, _, _⟩ := I1.hok c' _ code
  have run : codeAny (model X.prog X.w) (X.A.deeper (envOfC x sg s.heap.objs.size ga cdg)) (.call (.ref f) ⟨[], []⟩) (CR (L2N.CX X.prog X.w) (envOfC x sg s.heap.objs.size ga cdg :: X.stack) X.prog X.w HY s1 Q Z) s1 := by
    refine PySem.W.kla_callFunE hr.depth there rfl L.co L.gen rfl ⟨c', oc, vs, t, rfl, hoc, hdc, hvc⟩ ?_
    rw [hbind]
    refine wpAny_pure (wpAny_newFunctionEnv (fun y hy => (L.own y hy).2) (fun y hy => absurd hy (by simp)) (fun h1 ns sb => ⟨I1.nolimit.fresh _ sb, ?_⟩) L.kind)
    show codeAny _ _ (.expr body (lamEnv X scope s1.heap.objs.size f c')) _ _
    have kp : ∀ b o, s1.heap.get? b = some o → h1.get? b = some o := fun b o e => sb.extBut b o (Nat.ne_of_lt (Heap.lt_size e)) (Heap.get?_push_of_some _ e)
    have J := inv_xe (xe := (lamQ X (X.A.deeper (envOfC x sg s.heap.objs.size ga cdg)) (envOfC x sg s.heap.objs.size ga cdg :: X.stack) s1 HY Z scope f c').xe)
      (lam_start2 (E := Z) (f := f) (c' := c') (tk := s1.toks + ([] : List (Str × Value)).length) I L I1.env0 hr.hd un ns kp)
    refine PySem.W.kla_codeExpr (wpAny_mono ((hbody _ _ s1 HY (hr.deeper _)).run [] _ _ HY Q J ht) (fun v s' hq => ?_) fun e s' hq => hq)
    obtain ⟨w', G', J', rv, q⟩ := hq
    exact ⟨w', G', J'.os, J'.bare, J'.base, J'.hok, rv, q⟩
  have hx : Passes (L2N.CX X.prog X.w) ((cxOf C8.CX0 X.prog X.w X.K X.mg X.base Ng x sg ga cdg X.A X.stack s H C8.E0).tr pn xe) Z := L2N.passes_call tk hW
  refine wpAny_call (codeAny_mono run fun r s' hq => ?_)
  cases r with
  | error e => exact hx pinsY σY HY s1 e s' I1 hq
  | ok fl =>
    cases fl with
    | ret u => exact I1.after hq
    | next => exact False.elim hq
    | brk => exact False.elim hq
    | cont => exact False.elim hq
end
end QE

set_option Elab.async false
set_option linter.all false
set_option maxRecDepth 10000
set_option maxHeartbeats 1000000
/-! g(lambda: ..), g a def of the text that catches. -/
namespace QE
open PySem PySem.Spec PyProof.Rows L2 LamX
/-- the tables among the cells -/
def tabsOf : Sto → List (Addr × Str)
  | [] => []
  | .tbl p q :: S => (p, strOf q) :: tabsOf S
  | _ :: S => tabsOf S
theorem tabs_get : ∀ {S : Sto} {x : Addr × Str}, x ∈ tabsOf S → ∃ (n : Nat) (q : List Nat), S[n]? = some (.tbl x.1 q) ∧ x.2 = strOf q
  | .tbl p q :: S, x, h => by
    simp only [tabsOf, List.mem_cons] at h
    rcases h with h | h
    · subst h; exact ⟨0, q, rfl, rfl⟩
    · obtain ⟨n, q', a, b⟩ := tabs_get h
      exact ⟨n + 1, q', by simpa using a, b⟩
  | .lst xs :: S, x, h => by
    obtain ⟨n, q', a, b⟩ := tabs_get (S := S) h
    exact ⟨n + 1, q', by simpa using a, b⟩
  | .dic t xs :: S, x, h => by
    obtain ⟨n, q', a, b⟩ := tabs_get (S := S) h
    exact ⟨n + 1, q', by simpa using a, b⟩
theorem tabs_mem : ∀ {S : Sto} {n : Nat} {p : Nat} {q : List Nat}, S[n]? = some (.tbl p q) → (p, strOf q) ∈ tabsOf S
  | [], _, _, _, h => by simp at h
  | .tbl p' q' :: S, 0, p, q, h => by simp at h; obtain ⟨rfl, rfl⟩ := h; simp [tabsOf]
  | .lst _ :: S, 0, p, q, h => by simp at h
  | .dic _ _ :: S, 0, p, q, h => by simp at h
  | o :: S, n + 1, p, q, h => by
    have := tabs_mem (S := S) (n := n) (by simpa using h)
    cases o <;> simp [tabsOf, this]
section
variable {K : PySem.W.Frag} {hid ρ : List Addr} {H H1 : Hp} {S : Sto}
theorem sok_tabs (s : SOk K hid ρ H S) : Tabs (tabsOf S) H := fun x hx => by
  obtain ⟨n, q, hn, e⟩ := tabs_get hx
  obtain ⟨a, h1, ea, ps, h2, h3, h4⟩ := s.ob n _ hn
  rw [e]
  exact ⟨ps, h2, h3, fun pos cv hc => let ⟨c, e1, _, e3⟩ := h4 pos cv hc; ⟨c, e1, e3⟩⟩
/-- only tables have grown -/
theorem ext_tabs (n : ExtN H H1) : Ext ρ H ρ H1 :=
  ⟨⟨[], by simp, by simp⟩, fun b o e _ nt => n b o e nt, fun b o e nt => ⟨o, n b o e nt, nt⟩, fun b xs e => n b _ e fun _ z => (by cases z), fun b o u e => n b _ e fun _ z => (by cases z)⟩
theorem sok_grown (s : SOk K hid ρ H S) (n : ExtN H H1) (T : Tabs (tabsOf S) H1) : SOk K hid ρ H1 S := by
  refine ⟨s.len, s.nd, s.apart, fun a ha => let ⟨o, x, nt⟩ := s.hidd a ha; ⟨o, n a o x nt, nt⟩, fun m ob q => ?_⟩
  obtain ⟨a, h1, h2⟩ := s.ob m ob q
  refine ⟨a, h1, ?_⟩
  cases ob with
  | lst xs =>
    obtain ⟨vs, q1, q2⟩ := h2
    exact ⟨vs, n _ _ q1 fun _ z => (by cases z), RepL.mono (ext_tabs n) _ _ q2⟩
  | dic t xs =>
    cases t with
    | true =>
      obtain ⟨vs, q1, q2⟩ := h2
      exact ⟨vs, n _ _ q1 fun _ z => (by cases z), RepT.mono (ext_tabs n) _ _ q2⟩
    | false =>
      obtain ⟨vs, q1, q2⟩ := h2
      exact ⟨vs, n _ _ q1 fun _ z => (by cases z), RepK.mono (ext_tabs n) _ _ q2⟩
  | tbl p qn =>
    obtain ⟨ea, _⟩ := h2
    obtain ⟨ps, t1, t2, t3⟩ := T _ (tabs_mem q)
    refine ⟨ea, ps, t1, t2, fun pos cv hc => ?_⟩
    obtain ⟨c, e1, e2⟩ := t3 pos cv hc
    refine ⟨c, e1, fun z => ?_, e2⟩
    obtain ⟨i, hi, ei⟩ := List.getElem_of_mem z
    have hS : i < S.length := by rw [← s.len]; exact hi
    obtain ⟨c', g1, g2⟩ := s.ob i S[i] (List.getElem?_eq_getElem hS)
    rw [List.getElem?_eq_getElem hi, ei] at g1
    cases g1
    have hSi : S[i]? = some S[i] := List.getElem?_eq_getElem hS
    revert g2 hSi
    generalize S[i] = ob
    intro g2 hSi
    cases ob with
    | lst xs => obtain ⟨vs, w, _⟩ := g2; have := n _ _ w (fun _ z => (by cases z)); rw [e2] at this; cases this
    | dic t xs => cases t <;> (obtain ⟨vs, w, _⟩ := g2; have := n _ _ w (fun _ z => (by cases z)); rw [e2] at this; cases this)
    | tbl p' q' =>
      obtain ⟨e', _⟩ := g2
      obtain ⟨ps', w, _⟩ := T _ (tabs_mem hSi)
      rw [← e'] at w
      have w : H1 c = some (.tbl ps') := w
      rw [e2] at w
      cases w
end
/-- what is wished of an exception that a lambda lets out -/
def KX (K : PySem.W.Frag) (c : Ctx) (g : Nat) (Q : VK) : XK := fun cls d H' => ∃ k C v hid ρ S, c.cls k = some C ∧ cls = .ref C ∧ d = none ∧ c.gx g k = some v ∧ SOk K hid ρ H' S ∧ ∀ ρ' H'' u, Ext ρ H' ρ' H'' → SOk K hid ρ' H'' S → Rep K hid ρ' H'' v u → Q u H''
def KN (K : PySem.W.Frag) (c : Ctx) (g : Nat) (Q : VK) : VK := fun _ H' => ∃ v hid ρ S, c.gok g = some v ∧ SOk K hid ρ H' S ∧ ∀ ρ' H'' u, Ext ρ H' ρ' H'' → SOk K hid ρ' H'' S → Rep K hid ρ' H'' v u → Q u H''
/-- the def that calls what it got, and catches -/
def Gives (X : Cx) (c : Ctx) (g : Nat) (Ng : List Str) (x : Str) (sg : Scope) (ga : Addr) (cdg : Value) (bg : List Stmt) (a : Str) : Prop :=
  ∀ (s : Shared) (H : Hp) (f c' : Addr) (q : Str) (Q : VK) (tl : XK → Hp → VK → Prop),
    (∀ (W : WX) (pn : List (Addr × Obj)) (xe : Value → Shared → Prop) (Z : XK) (p1 p2 : Pos), L2N.Takes ((cxOf C8.CX0 X.prog X.w X.K X.mg X.base Ng x sg ga cdg X.A X.stack s H C8.E0).tr pn xe) W → (∀ cls d σ' H', Z cls d H' → W cls d σ' H') →
      PE ((cxOf C8.CX0 X.prog X.w X.K X.mg X.base Ng x sg ga cdg X.A X.stack s H C8.E0).tr pn xe) (.Call (.Name a p1) [] [] p2) (fun σZ HZ Q => σZ[0]? = some (some (.ref f)) ∧ HZ c' = some (CodeO c' q) ∧ tl Z HZ Q)) →
    H c' = some (CodeO c' q) → tl (KX X.K c g Q) H (KN X.K c g Q) →
    ∃ t, PSs (cxOf C8.CX0 X.prog X.w X.K X.mg X.base Ng x sg ga cdg X.A X.stack s H C8.E0).nox bg t ∧ t { nx := fun _ H' => Q .non H', rt := Q } (L2.start Ng [.ref f]) H
section
variable {X : Cx} {c : Ctx} {g j P : Nat} {q : List Nat} {eb : E} {x a : Str} {ga cc : Addr} {k : Nat} {pg : Arguments} {bg : List Stmt} {sg : Scope} {dV kV doc pm cdv ct oc : Value} {an od : Option Addr} {osl : Array (Option Value)} {Ng : List Str} {params : Arguments} {body : Expr} {scope : Scope} {p lpos pos : Pos}
theorem s_guard (hg : Gl X x) (hm : X.mg x = some (.ref ga)) (hk : PySem.W.keepIn X.K (.ref ga) = true) (lk : X.K.lookup ga = some ⟨oc, od, .func (PySem.W.fnOf x x pg bg sg dV kV doc pm an cdv ct), osl⟩) (hcg : PySem.W.codeIn X.K cdv x = true)
    (hb : L2.Binds X.K (PySem.W.fnOf x x pg bg sg dV kV doc pm an cdv ct) [a] []) (Sg : FnScope Ng [a] sg) (hNg : Ng[0]? = some a) (hva : Vis sg a) (hG : Gives X c g Ng x sg ga cdv bg a)
    (h1 : ∀ v, c.gok g = some v → v.st = true) (h2 : ∀ k v, c.gx g k = some v → v.st = true)
    (TB : TabB X.base X.mg cc P) (hcode : X.env.code = .ref cc) (hq : X.env.qual ++ "<lambda>" = strOf q) (hr : Room (k + 2) X.A) (L : LamS X.env.scope scope) (hdef : defaultsOf params X.env = ([], []))
    (hbind : ∀ (q : Str) (cl : List (Str × Addr)) (pm cv ctv : Value), bindArgs (PySem.W.kla_fn "<lambda>" q params body scope cl pm cv ctv) ⟨[], []⟩ = pure [])
    (hbody : ∀ (A : Around) (outer : List PySem.Env) (s : Shared) (H : Hp) (Z : XK) (f c' : Addr), Room k (A.deeper (lamEnv X scope s.heap.objs.size f c')) → PE (lamQ X A outer s H Z scope f c') body (tX X.K c eb Z))
    (hdb : (x == ("__debug__" : Str)) = false) (hd : (a == ("__debug__" : Str)) = false) (hcd : (a == ("__classdict__" : Str)) = false) :
    PE X (.Call (.Name x p) [.Lambda params body scope lpos] [] pos) (tE X.K c (.guard g j P q eb)) := by
  refine ⟨fun pins s σ H Q I h => ?_⟩
  obtain ⟨hid, ρ, env, S, hE, hs, h⟩ := h
  simp only [evalE] at h
  cases hT : tblAt S j P q with
  | false => rw [hT, if_neg Bool.false_ne_true] at h; exact h.elim
  | true =>
  rw [hT, if_pos rfl] at h
  cases hj : S[j]? with
  | none => simp [tblAt, hj] at hT
  | some ob =>
  cases ob with
  | lst xs => simp [tblAt, hj] at hT
  | dic t xs => simp [tblAt, hj] at hT
  | tbl p' q' =>
  simp only [tblAt, hj] at hT
  simp only [Bool.and_eq_true, decide_eq_true_eq] at hT
  obtain ⟨rfl, rfl⟩ := hT
  have mT : (p', X.env.qual ++ "<lambda>") ∈ tabsOf S := by rw [hq]; exact tabs_mem hj
  have uT : ∀ y ∈ tabsOf S, y.1 = p' → y.2 = X.env.qual ++ "<lambda>" := fun y hy e => by
    obtain ⟨n, qn, hn, e2⟩ := tabs_get hy
    obtain ⟨b1, g1, ea1, _⟩ := hs.ob n _ hn
    obtain ⟨b2, g2, ea2, _⟩ := hs.ob j _ hj
    have hnj : n = j := by
      obtain ⟨l1, w1⟩ := List.getElem?_eq_some_iff.mp g1
      obtain ⟨l2, w2⟩ := List.getElem?_eq_some_iff.mp g2
      exact (List.getElem_inj hs.nd).mp (by rw [w1, w2, ea1, ea2, e])
    subst hnj
    rw [hj] at hn
    cases hn
    rw [e2, hq]
  refine wpAny_Call_Name_kw (ld_glob I hg hm ?_ hdb)
  refine PySem.W.callWith_K (h₀ := X.base) I.ok.mod.kin hk ?_ (by rfl) (by rfl)
  show wpAny _ _ (spliced ((false, eval (.Lambda params body scope lpos) X.env) :: backTo pos (starEach [] X.env))) _ _ s
  refine Calls.spliced_cons (lam_make2 I TB hcode mT uT (sok_tabs hs) hdef (L.has I.ok) fun f c' pm' ctv H1 s' I1 eN T1 hf hfn hfr hco => ?_)
  refine Calls.spliced_nil ⟨I1.kIn, ?_⟩
  have e1 : Ext ρ H ρ H1 := ext_tabs eN
  have s1 := sok_grown hs eN T1
  have wish : tX X.K c eb (KX X.K c g Q) σ H1 (KN X.K c g Q) := by
    refine ⟨hid, ρ, env, S, hE.mono e1, s1, ?_⟩
    revert h
    generalize evalX c eb env S = r
    intro h
    cases r with
    | bad => exact h.elim
    | ok v S2 =>
      obtain ⟨v, hv, h3⟩ := h.of
      intro ρ2 H2 e2 s2 _ _ _
      exact ⟨v, hid, ρ2, S2, hv, s2, fun ρ3 H3 u e3 s3 ru => h3 ρ3 H3 ((e1.trans e2).trans e3) s3 u ru (.of_st (h1 v hv))⟩
    | exc kx ps S2 =>
      obtain ⟨v, hv, h3⟩ := h.of
      intro ρ2 H2 e2 s2 C hC
      exact ⟨kx, C, v, hid, ρ2, S2, hC, rfl, rfl, hv, s2, fun ρ3 H3 u e3 s3 ru => h3 ρ3 H3 ((e1.trans e2).trans e3) s3 u ru (.of_st (h2 kx v hv))⟩
  have rc : codeAny (model X.prog X.w) X.A (.call (.ref ga) ⟨[.ref f], []⟩) (CR C8.CX0 X.stack X.prog X.w H1 s' Q C8.E0) s' := by
    refine run_ofS (N := Ng) (ps := [a]) (us := [.ref f]) (vs := [.ref f]) lk hcg Sg hr I1.env0 (hb s' [.ref f] I1.kIn rfl) (.cons rfl .nil) rfl fun hr' => ?_
    obtain ⟨t', ht', hq'⟩ := hG s' H1 f c' _ Q (fun Z H' Q' => tX X.K c eb Z σ H' Q') (fun W pn xe Z p1 p2 tk hW => act I1 L hf hfn hfr (hbind _ _ _ _ _) tk hW hr' (fun A outer s H hr2 => hbody A outer s H Z f c' hr2) hNg hva hd hcd) hco wish
    exact ⟨t', ht'.nox, hq'⟩
  refine wpAny_call (codeAny_mono rc fun r s2 hq => ?_)
  cases r with
  | error e => exact (show False from hq).elim
  | ok fl =>
    cases fl with
    | ret u => exact I1.after hq
    | next => exact False.elim hq
    | brk => exact False.elim hq
    | cont => exact False.elim hq
end
end QE

set_option Elab.async false
set_option linter.all false
set_option maxRecDepth 10000
set_option maxHeartbeats 1000000
/-! try: a() / except C as n: suite / rest. -/
namespace QE
open PySem PySem.Spec PyProof.Rows L2 LamX L2H
/-- the names of a def that catches, none of them set -/
def bare (n : Nat) : Env := List.replicate n none
theorem bare_rep {K : PySem.W.Frag} {hid ρ : List Addr} {H : Hp} {n : Nat} {σ : L2.St} (h : σ.length = n) : ERep K hid ρ H (bare n) σ := by
  refine ⟨by simp [bare, h], fun i x q => ?_⟩
  have := List.mem_of_getElem? q
  simp [bare] at this
def suiteCtx (c : Ctx) (k a : Nat) : Ctx := { c with call := fun _ _ _ => .bad, exn := some (k, a) }
def restCtx (c : Ctx) : Ctx := { c with call := fun _ _ _ => .bad, exn := none }
/-- what a def that catches hands back, by the evaluator: st the suite, sr the rest, i the caught one's name, n so many names -/
structure Catch (c : Ctx) (g n i : Nat) (st sr : List Stm) : Prop where
  lt : i < n
  suite : ∀ k v, c.gx g k = some v → ∀ (a : Nat) (S : Sto), ∃ env', execSs (suiteCtx c k a) st ((bare n).set i (some (.exn k a))) S = .ok (.rt v, env') S
  rest : ∀ v, c.gok g = some v → ∀ S : Sto, ∃ env', execSs (restCtx c) sr (bare n) S = .ok (.rt v, env') S
theorem noTakes {X : Cx} : L2N.Takes X (fun _ _ _ _ => False) := fun _ _ x => by
  obtain ⟨_, _, _, _, _, _, _, _, _, _, _, _, _, _, _, _, z⟩ := x
  exact z.elim
theorem gives_try {X : Cx} {c : Ctx} {g n i : Nat} {Ng : List Str} {x a e nm : Str} {sg : Scope} {ga : Addr} {cdg CS : Value} {b₀ : Stmt} {suite rest : List Stmt} {st sr : List Stm} {p1 p2 p3 p4 p7 p8 : Pos} (C : Catch c g n i st sr) (hn : Ng.length = n) (nd : Ng.Nodup) (hi : Ng[i]? = some nm) (hl : sg.names.lookup nm = some .local)
    (h0 : 0 < n) (hge : sg.names.lookup e = some .globalImplicit) (hde : (e == ("__debug__" : Str)) = false) (hce : X.mg e = some CS ∨ (X.mg e = none ∧ bootBuiltins e = some CS ∧ e ≠ "__name__"))
    (hx : ∀ k C v, c.cls k = some C → c.gx g k = some v → PySem.W.exmOne X.K (.ref C) CS = some true)
    (hs : ∀ (s : Shared) (H : Hp) (k D a' : Nat) (oe : Obj) (pn : List (Addr × Obj)), c.cls k = some D → L2N.Zn (.ref D) none oe → (∃ vs, oe.data = .fields vs) →
      PSs ((cxOf C8.CX0 X.prog X.w X.K X.mg X.base Ng x sg ga cdg X.A X.stack s H C8.E0).nox.suite a' ((a', oe) :: pn)) (b₀ :: suite) (tSs X.K (suiteCtx c k a') (fun _ _ _ _ => False) st))
    (hr : ∀ (s : Shared) (H : Hp), PSs (cxOf C8.CX0 X.prog X.w X.K X.mg X.base Ng x sg ga cdg X.A X.stack s H C8.E0).nox rest (tSs X.K (restCtx c) (fun _ _ _ _ => False) sr)) :
    Gives X c g Ng x sg ga cdg (.Try [.Expr (.Call (.Name a p1) [] [] p2) p3] [.ExceptHandler (some (.Name e p4)) (some nm) (b₀ :: suite) p7] [] [] p8 :: rest) a := by
  intro s H f c' q Q tl hact hco hw
  generalize hY : (cxOf C8.CX0 X.prog X.w X.K X.mg X.base Ng x sg ga cdg X.A X.stack s H C8.E0).nox = Y
  have hYN : Y.N = Ng := by rw [← hY]; rfl
  have ts_ok : ∀ (a' : Addr) (oe : Obj) (cls : Value) (d : Option Addr) (pn : List (Addr × Obj)), L2N.Zn cls d oe → (∃ vs, oe.data = .fields vs) → PSs (Y.suite a' ((a', oe) :: pn)) (b₀ :: suite)
      ((fun a' cls d => fun D σ G => (∃ σ0 : L2.St, σ = σ0.set i (some (.ref a'))) ∧ ∃ k D' v hid ρ S, c.cls k = some D' ∧ cls = .ref D' ∧ d = none ∧ c.gx g k = some v ∧ SOk X.K hid ρ G S ∧ ∀ ρ' G' u, Ext ρ G ρ' G' → SOk X.K hid ρ' G' S → Rep X.K hid ρ' G' v u → D.rt u G' : Addr → Value → Option Addr → TS) a' cls d) := by
    intro a' oe cls d pn hz hd
    refine ⟨fun pins s' σ G D I h => ?_⟩
    obtain ⟨⟨σ0, eσ⟩, k, D', v, hid, ρ, S, hD', ec, ed, hv, so, fin⟩ := h
    subst ec ed
    have hlen : σ.length = n := by
      have := I.len
      rw [this]
      show Y.N.length = n
      rw [hYN]; exact hn
    have hlen0 : σ0.length = n := by rw [eσ] at hlen; simpa using hlen
    obtain ⟨env', he⟩ := C.suite k v hv a' S
    have hss := hs s H k D' a' oe pn hD' hz hd
    rw [hY] at hss
    refine hss.run pins s' σ G D I ⟨hid, ρ, (bare n).set i (some (.exn k a')), S, ?_, so, ?_⟩
    · rw [eσ]
      exact (bare_rep hlen0).set i rfl (by simp only [Rep])
    · rw [he]
      exact fun ρ' G' e1 s1 u ru _ => fin ρ' G' u e1 s1 ru
  have tb_ok : ∀ (W : WX) (pn : List (Addr × Obj)) (xe : Value → Shared → Prop), L2N.Takes (Y.tr pn xe) W → PassesOwn (model Y.prog Y.w) Y.A Y.env xe → PSs (Y.tr pn xe) [.Expr (.Call (.Name a p1) [] [] p2) p3]
      ((fun W => fun D σ G => ∃ Zc : XK, (∀ cls d σ' H', Zc cls d H' → W cls d σ' H') ∧ σ[0]? = some (some (.ref f)) ∧ G c' = some (CodeO c' q) ∧ tl Zc G (fun _ H' => D.nx σ H') : WX → TS) W) := by
    intro W pn xe tk _
    refine ⟨fun pins s' σ G D I h => ?_⟩
    obtain ⟨Zc, hW, h1, h2, h3⟩ := h
    subst hY
    exact (pss_one (ps_expr (pos := p3) (hact W pn xe Zc p1 p2 tk hW) (no_swaps rfl _ _ _))).run pins s' σ G D I ⟨h1, h2, h3⟩
  have rest_ok : PSs Y rest ((fun D σ G => ∃ v hid ρ S, c.gok g = some v ∧ SOk X.K hid ρ G S ∧ ∀ ρ' G' u, Ext ρ G ρ' G' → SOk X.K hid ρ' G' S → Rep X.K hid ρ' G' v u → D.rt u G' : TS)) := by
    refine ⟨fun pins s' σ G D I h => ?_⟩
    obtain ⟨v, hid, ρ, S, hv, so, fin⟩ := h
    have hlen : σ.length = n := by
      rw [I.len, hYN]; exact hn
    obtain ⟨env', he⟩ := C.rest v hv S
    have hrr := hr s H
    rw [hY] at hrr
    refine hrr.run pins s' σ G D I ⟨hid, ρ, bare n, S, bare_rep hlen, so, ?_⟩
    rw [he]
    exact fun ρ' G' e1 s1 u ru _ => fin ρ' G' u e1 s1 ru
  have hnames : Names Y e CS := by
    subst hY
    exact ⟨hge, hde, hce⟩
  refine ⟨_, pss_cons (L2N.ps_try_as (X := Y) (by subst hY; rfl) (by subst hY; rfl) (by rw [hYN]; exact nd) (by rw [hYN]; exact hi) (by subst hY; exact hl) hnames noTakes tb_ok ts_ok) rest_ok, ?_⟩
  refine ⟨KX X.K c g Q, fun cls d σ' H' hk => ?_, ?_, hco, hw⟩
  · obtain ⟨k, D', v, hid, ρ, S, hD', ec, ed, hv, so, fin⟩ := hk
    subst ec
    refine ⟨true, ?_, fun _ a' _ => ⟨⟨σ', rfl⟩, k, D', v, hid, ρ, S, hD', rfl, ed, hv, so, fin⟩, fun z => Bool.noConfusion z⟩
    have := hx k D' v hD' hv
    subst hY
    exact this
  · unfold L2.start
    rfl
end QE

set_option Elab.async false
set_option linter.all false
set_option maxRecDepth 10000
set_option maxHeartbeats 1000000
/-! x[::-1] of tuples and lists; comprehensions over a cell's list. -/
namespace QE
open PySem PySem.Spec PyProof.Rows L2
section
variable {prog : Program} {w : World} {A : Around} {E : Value → Shared → Prop} {s : Shared}
theorem adj_rev (n : Nat) : Builtin.Slice.sliceAdjust none none (-1) (n : Int) = ((n : Int) - 1, -1) := by
  unfold Builtin.Slice.sliceAdjust
  simp
theorem plc_rev (n : Nat) : Builtin.Slice.slicePlaces ((n : Int) - 1) (-1) (-1) = n := by
  unfold Builtin.Slice.slicePlaces
  by_cases h : (n : Int) - 1 > -1
  · simp only [show ¬ ((-1 : Int) > 0) by decide, if_false, h, if_true]
    rw [show (- -1 : Int) = 1 by decide, Int.ediv_one]
    omega
  · simp only [show ¬ ((-1 : Int) > 0) by decide, if_false, h]
    omega
theorem app_rev {sl : Addr} {vs : Value} {n : Nat} {Q : Int × Int × Nat → Shared → Prop} (hs : s.heap.IsSliceOf sl .none .none vs) (ps : IsPart vs (some (-1))) (h : Q ((n : Int) - 1, -1, n) s) :
    wpAny (model prog w) A (Builtin.Slice.sliceApplied (.ref sl) (pure (n : Int))) Q E s := by
  obtain ⟨o, g1, g2, g3⟩ := id hs
  unfold Builtin.Slice.sliceApplied Builtin.Slice.sliceFields
  refine wpAny_bind (wpAny_bind (wpAny_field g1 g3 (x := .none) rfl (wpAny_bind (wpAny_field g1 g3 (x := .none) rfl (wpAny_bind (wpAny_field g1 g3 (x := vs) rfl (wpAny_pure ?_)))))))
  refine wpAny_bind (HT.slicePart_ ps ?_)
  show wpAny _ _ (ite (((-1 : Int) == 0) = true) _ _) _ _ s
  rw [if_neg (by decide)]
  refine wpAny_bind (HT.slicePart_ .none (wpAny_bind (HT.slicePart_ .none (wpAny_bind (wpAny_pure ?_)))))
  show wpAny _ _ (match Builtin.Slice.sliceAdjust none none (-1) (n : Int) with | (a, b) => pure (a, (-1 : Int), Builtin.Slice.slicePlaces a b (-1))) _ _ s
  rw [adj_rev]
  show wpAny _ _ (pure ((n : Int) - 1, (-1 : Int), Builtin.Slice.slicePlaces ((n : Int) - 1) (-1) (-1))) _ _ s
  rw [plc_rev]
  exact wpAny_pure h
theorem fm_congr {α β : Type} {f g : α → Option β} : ∀ {l : List α}, (∀ x ∈ l, f x = g x) → l.filterMap f = l.filterMap g
  | [], _ => rfl
  | x :: l, h => by
    rw [List.filterMap_cons, List.filterMap_cons, h x (by simp), fm_congr fun y hy => h y (List.mem_cons_of_mem _ hy)]
theorem pick_rev (xs : Array Value) : ((List.range xs.size).filterMap fun (k : Nat) => xs[((xs.size : Int) - 1 + (k : Int) * -1).toNat]?).toArray = xs.toList.reverse.toArray := by
  congr 1
  rw [← PySem.W.krv_all xs, ← List.filterMap_reverse, ← PySem.W.krv_range, List.filterMap_map]
  apply fm_congr
  intro k hk
  have := List.mem_range.mp hk
  simp only [Function.comp_apply]
  congr 1
  omega
/-- t[::-1] -/
theorem item_rev {t sl : Addr} {its : Array Value} {vs : Value} {Q : Value → Shared → Prop} (ht : IsTup s.heap t its) (hs : s.heap.IsSliceOf sl .none .none vs) (ps : IsPart vs (some (-1))) (hz : its.size ≤ sizeLine)
    (h : Q (.ref s.heap.objs.size) { s with heap := s.heap.push { cls := .type "tuple", data := .seq its.toList.reverse.toArray } }) : wpAny (model prog w) A (getItem (.ref t) (.ref sl)) Q E s := by
  have fits : sizeOk (.seq its.toList.reverse.toArray) := by
    show its.toList.reverse.toArray.size ≤ sizeLine
    simpa using hz
  obtain ⟨o, g1, g2, g3⟩ := id hs
  have hT : s.TypeIs (.ref sl) "slice" := ⟨o, g1, g2⟩
  unfold getItem
  first | refine wpAny_holding ?_ | skip
  first | refine wpAny_bind (wpAny_pure ?_) | skip
  refine wpAny_bind (wpAny_sequenceKey ht.typeIs (by decide) (wpAny_bind (wpAny_callSpecial?_slot (name := Str.ofString "__getitem__") ht.typeIs PyProof.Rows.slot_tuple_getitem (wpAny_call_entry PyProof.Rows.slot_tuple_getitem ht.typeIs entry_tuple_getitem ?_ (args_tuple_getitem _ _)))))
  show wpAny _ _ (Builtin.Tuple.tupleItemsOf (.ref t) >>= _) _ _ s
  refine wpAny_bind (tupleItemsOf_ ht (wpAny_bind (wpAny_typeOf hT ?_)))
  rw [if_pos (by decide)]
  refine wpAny_bind (app_rev hs ps ?_)
  show wpAny _ _ (ite (((((its.size : Nat) : Int) - 1) == 0 && (-1 : Int) == 1 && its.size == its.size) = true) _ _) _ _ s
  rw [if_neg (by simp), pick_rev]
  first
    | exact wpAny_bind (m := Builtin.Tuple.tupleExact _) (wpAny_newObj_type (wpAny_pure ⟨_, rfl, wpAny_pure h⟩) fits)
    | exact wpAny_bind (m := Builtin.Tuple.tupleExact _) (wpAny_newObj_type (wpAny_bind (wpAny_pure (wpAny_pure ⟨_, rfl, wpAny_pure h⟩))) fits)
    | exact wpAny_bind (wpAny_bind (m := Builtin.Tuple.tupleExact _) (wpAny_newObj_type (wpAny_pure (wpAny_pure ⟨_, rfl, wpAny_pure h⟩)) fits))
    | exact wpAny_bind (wpAny_bind (m := Builtin.Tuple.tupleExact _) (wpAny_newObj_type (wpAny_pure ⟨_, rfl, wpAny_pure h⟩) fits))
end
section
variable {X : Cx} {c : Ctx}
def tRv (K : PySem.W.Frag) (te : TE) : TE := fun σ H Q => te σ H fun x H1 => ∃ a xs, x = .ref a ∧ ((SqL K H1 a xs ∧ ∀ p, H1 p = none → Q (.ref p) (upd H1 p (.lst xs.reverse))) ∨ (SqT K H1 a xs ∧ ∀ p, H1 p = none → Q (.ref p) (upd H1 p (.tup xs.reverse))))
theorem pe_rv {e : Expr} {te : TE} {k : Nat} {p1 p2 p3 pos : Pos} (he : PE X e te) : PE X (.Subscript e (.Slice none none (some (.UnaryOp .USub (.Constant (.int 1) k p1) p2)) p3) pos) (tRv X.K te) := by
  refine ⟨fun pins s σ H Q I h => Subscript_ (thn (he.run pins s σ H _ I h) fun v s1 z => ?_)⟩
  obtain ⟨x, H1, I1, r1, a, xs, ex, q⟩ := z
  subst ex
  cases r1
  have hst : PO X (some (.UnaryOp .USub (.Constant (.int 1) k p1) p2)) (tPart (tUn (rU fun i => .int (-i)) (tC (.int 1)))) := po_some (pe_un un_neg pe_int)
  refine wpAny_Slice (thn (po_none.run pins s1 σ H1 (fun o H2 => o = none ∧ H2 = H1) I1 ⟨rfl, rfl⟩) fun vl s2 z => ?_)
  obtain ⟨l, H2, I2, pl, el, e2⟩ := z
  subst el e2
  refine thn (po_none.run pins s2 σ H2 (fun o H3 => o = none ∧ H3 = H2) I2 ⟨rfl, rfl⟩) fun vu s3 z => ?_
  obtain ⟨u, H3, I3, pu, eu, e3⟩ := z
  subst eu e3
  refine thn (hst.run pins s3 σ H3 (fun o H4 => o = some (-1) ∧ H4 = H3) I3 ⟨1, rfl, -1, rfl, rfl, rfl⟩) fun vs s4 z => ?_
  obtain ⟨o, H4, I4, ps, eo, e4⟩ := z
  subst eo e4
  cases pl
  cases pu
  have I5 : Inv X pins σ H4 { s4 with heap := s4.heap.push { cls := .type "slice", data := .fields #[.none, .none, vs] } } := I4.kept (t' := s4.toks) fun b ob z => Heap.get?_push_of_some _ z
  show wpAny (model X.prog X.w) X.A (subscriptTail e (.Slice none none (some (.UnaryOp .USub (.Constant (.int 1) k p1) p2)) p3) (.ref a) (.ref s4.heap.objs.size)) (EP X pins σ Q) X.xe _
  rcases q with ⟨hx, q⟩ | ⟨hx, q⟩
  · obtain ⟨its, r, ht, hz⟩ := I5.list hx
    have hn := r.length
    refine tail_any (ops := [.ref a, .ref s4.heap.objs.size]) ht.isList.typeIs (PySem.slot_list_getitem.lookup) (wpAny_getItem_list_slice ht.isList (Heap.IsSliceOf.new _ .none .none vs) .none .none ps (by decide) ?_ (by rw [List.size_toArray]; omega)) (by with_unfolding_all rfl)
    rw [PySem.W.krv_pick]
    exact ⟨.ref _, _, I5.laid (t' := s4.toks) (o := .lst xs.reverse) (fun b ob z => Heap.get?_push_of_some _ z) (Nat.le_refl _) ⟨by rw [List.length_reverse]; exact hz, _, 0, r.reverse, Heap.get?_push_size _ rfl⟩, rfl, q _ (I5.hok.fresh (Nat.le_refl _))⟩
  · obtain ⟨its, r, ht, hz⟩ := I5.tuple hx
    have hn := r.length
    refine tail_any (ops := [.ref a, .ref s4.heap.objs.size]) ht.typeIs (PyProof.Rows.slot_tuple_getitem.lookup) (item_rev ht (Heap.IsSliceOf.new _ .none .none vs) ps (by rw [List.size_toArray]; omega) ?_) (by with_unfolding_all rfl)
    exact ⟨.ref _, _, I5.laid (t' := s4.toks) (o := .tup xs.reverse) (fun b ob z => Heap.get?_push_of_some _ z) (Nat.le_refl _) ⟨by rw [List.length_reverse]; exact hz, _, r.reverse, IsTup.new _ _⟩, rfl, q _ (I5.hok.fresh (Nat.le_refl _))⟩
theorem RepL.rev {K : PySem.W.Frag} {hid ρ : List Addr} {H : Hp} : ∀ {xs : List Val} {vs : List V}, RepL K hid ρ H xs vs → RepL K hid ρ H xs.reverse vs.reverse
  | [], vs, r => by simp only [RepL] at r; subst r; exact .nil
  | x :: xs, vs, r => by
    simp only [RepL] at r
    obtain ⟨v, l, e, r1, r2⟩ := r
    subst e
    rw [List.reverse_cons, List.reverse_cons]
    exact (RepL.rev r2).app (.cons r1 .nil)
theorem s_rev {e : Expr} {ev : E} {k : Nat} {p1 p2 p3 pos : Pos} (he : PE X e (tE X.K c ev)) : PE X (.Subscript e (.Slice none none (some (.UnaryOp .USub (.Constant (.int 1) k p1) p2)) p3) pos) (tE X.K c (.rev ev)) := by
  refine PE.imp (pe_rv he) fun σ H Q h => ?_
  obtain ⟨hid, ρ, env, S, hE, hs, h⟩ := h
  simp only [evalE] at h
  refine tE.of hE hs h fun x S1 ρ1 H1 v e1 s1 r1 f1 h1 => ?_
  obtain ⟨z, ez, h2⟩ := h1.of
  have hh : Out X.K hid ρ1 H1 (.ok z S1) (Gv X.K hid H1 Q) := h2.mono fun z S2 ρ2 H2 e2 q u ru fu => q u ru (fu.anti e1)
  clear h1 h2
  unfold revV at ez
  split at ez
  · cases ez
    obtain ⟨a, vs, ea, g1, r2⟩ := r1.tup_
    exact ⟨a, vs, ea, .inr ⟨SqT.of g1, fun p hp => fin_new s1 hh hp (rep_newT hp r2.rev) trivial⟩⟩
  · cases ez
    simp only [Rep] at r1
    obtain ⟨a, vs, ea, g1, r2⟩ := r1
    exact ⟨a, vs, ea, .inr ⟨.inl g1.rd, fun p hp => fin_new s1 hh hp (rep_newT hp r2.rev) trivial⟩⟩
  · split at ez <;> cases ez
    rename_i xs hl
    obtain ⟨a, vs, ea, g1, r2⟩ := asList_rep s1 hl r1
    exact ⟨a, vs, ea, .inl ⟨.inl g1, fun p hp => fin_new s1 hh hp (rep_newL s1 hp r2.rev) (fresh_newL s1 hp (.of hp) r2.rev)⟩⟩
end
/-! ### a cell's list is walked -/
mutual
theorem same_eq : ∀ (x y : Val), Val.same x y = true → x = y
  | .non, y, h => by cases y <;> simp only [Val.same] at h <;> first | (cases h; done) | rfl
  | .bl a, y, h => by
    cases y <;> simp only [Val.same] at h <;> try (cases h; done)
    rw [eq_of_beq h]
  | .int a, y, h => by
    cases y <;> simp only [Val.same] at h <;> try (cases h; done)
    rw [eq_of_beq h]
  | .str a, y, h => by
    cases y <;> simp only [Val.same] at h <;> try (cases h; done)
    rw [eq_of_beq h]
  | .tup xs, y, h => by
    cases y <;> simp only [Val.same] at h <;> try (cases h; done)
    rw [sameL_eq xs _ h]
  | .ptup xs, y, h => by
    cases y <;> simp only [Val.same] at h <;> try (cases h; done)
    rw [sameL_eq xs _ h]
  | .lst f xs, y, h => by
    cases y <;> simp only [Val.same, Bool.and_eq_true] at h <;> try (cases h; done)
    rw [eq_of_beq h.1, sameL_eq xs _ h.2]
  | .ref a, y, h => by
    cases y <;> simp only [Val.same] at h <;> try (cases h; done)
    rw [eq_of_beq h]
  | .dic _ _ _, y, h => by cases y <;> simp [Val.same] at h
  | .kls _, y, h => by cases y <;> simp [Val.same] at h
  | .fn _ _, y, h => by cases y <;> simp [Val.same] at h
  | .exn _ _, y, h => by cases y <;> simp [Val.same] at h
theorem sameL_eq : ∀ (xs ys : List Val), Val.sameL xs ys = true → xs = ys
  | [], ys, h => by cases ys <;> simp only [Val.sameL] at h <;> first | (cases h; done) | rfl
  | x :: xs, ys, h => by
    cases ys <;> simp only [Val.sameL, Bool.and_eq_true] at h <;> try (cases h; done)
    rw [same_eq x _ h.1, sameL_eq xs _ h.2]
end
theorem cellIs_eq {S : Sto} {n : Nat} {xs : List Val} (h : cellIs S n xs = true) : S[n]? = some (.lst xs) := by
  unfold cellIs at h
  split at h
  · rename_i ys hq
    rw [hq, sameL_eq ys xs h]
  · cases h
theorem walk_cell {K : PySem.W.Frag} {a : Addr} {N : Nat} : Walk (Itl K a) N (fun H => ∃ vs, H a = some (.lst vs) ∧ vs.length = N) (fun i H v H' => H' = H ∧ ∀ vs, H a = some (.lst vs) → vs[i]? = some v) :=
  ⟨fun i H hi ⟨vs, g, hl⟩ => ⟨vs, vs[i]'(by omega), .inl (.inl g), by simp [show i < vs.length by omega]⟩, fun H ⟨vs, g, hl⟩ => ⟨vs, .inl (.inl g), by omega⟩, fun i H x H' _ _ y => ⟨y.1, fun vs g => y.2 vs (.inl (.inl g))⟩⟩
section
variable {X : Cx} {c : Ctx} {pos : Pos}
theorem loopC_cell {n : Nat} {all : List Val} {tg : T} {test : Env → Sto → R Bool} {elt : Env → Sto → R Val} {env : Env} {l : List Val} {S S' : Sto} {ys : List Val} (h : compLoopC n all tg test elt env l S = .ok ys S') : S[n]? = some (.lst all) := by
  cases l with
  | nil =>
    unfold compLoopC at h
    split at h
    · rename_i hc; exact cellIs_eq hc
    · cases h
  | cons x l =>
    unfold compLoopC at h
    split at h
    · rename_i hc; exact cellIs_eq hc
    · cases h
theorem SOk.cellAt {K : PySem.W.Frag} {hid ρ : List Addr} {H : Hp} {S : Sto} (s : SOk K hid ρ H S) {n : Nat} {a : Addr} (ha : ρ[n]? = some a) {xs : List Val} (h : S[n]? = some (.lst xs)) : ∃ vs, H a = some (.lst vs) ∧ RepL K hid ρ H xs vs := by
  obtain ⟨b, h1, vs, h2, h3⟩ := s.ob n _ h
  rw [ha] at h1
  cases h1
  exact ⟨vs, h2, h3⟩
theorem lc_readC {own : List Nat} {tg : T} {e : E} {ifs : List E} {elt : E} (hown : ∀ i ∈ tgN tg, i ∈ own) {σ : L2.St} {H : Hp} {Q : VK} (h : tE X.K c (.compC own tg e ifs elt) σ H Q) :
    tLc (iList X.K (tE X.K c e)) (tG X.K tg) (tBs (evalAnd c) X.K ifs) (tE X.K c elt) own σ H Q := by
  obtain ⟨hid, ρ, env, S, hE, hs, h⟩ := h
  simp only [evalE] at h
  refine tE.of hE hs h fun x S1 ρ1 H1 v e1 s1 r1 f1 h1 => ?_
  obtain ⟨⟨n, xs⟩, hp, hk⟩ := h1.some
  have ex : x = .ref n ∧ S1[n]? = some (.lst xs) := by
    unfold cellOf at hp
    split at hp <;> try (cases hp; done)
    split at hp <;> cases hp
    rename_i q
    exact ⟨rfl, q⟩
  obtain ⟨ex, hS1⟩ := ex
  subst ex
  simp only [Rep] at r1
  obtain ⟨a, ha, ev⟩ := r1
  subst ev
  obtain ⟨vs0, g0, rr0⟩ := s1.cellAt ha hS1
  refine ⟨a, rfl, ⟨vs0, .inl (.inl g0)⟩, fun D hD => ?_⟩
  obtain ⟨ys, S', q2, hk2⟩ := hk.bind
  have q2 := calm_ok q2
  have hlim : ys.length ≤ lim := by
    have := hk2 ρ1 H1 (Ext.refl _ _)
    split at this
    · assumption
    · exact this.elim
  have here : ∀ {ρ2 : List Addr} {H2 : Hp} {S2 : Sto} {l ys2 : List Val}, Ext ρ1 H1 ρ2 H2 → SOk X.K (D :: hid) ρ2 H2 S2 → compLoopC n xs tg (evalAnd c ifs) (evalE c elt) (QE.wipe env own) l S2 = .ok ys2 S' → ∃ vs, H2 a = some (.lst vs) ∧ RepL X.K (D :: hid) ρ2 H2 xs vs := fun {ρ2 H2 S2 l ys2} e2 s2 hcl => s2.cellAt (e2.at_ ha) (loopC_cell hcl)
  refine lc_it (walk_cell (K := X.K) (a := a) (N := xs.length)) (fun i H2 => ∃ ρ2 S2 acc accv ys2, H2 D = some (.lst accv) ∧ RepL X.K (D :: hid) ρ2 H2 acc accv ∧ SOk X.K (D :: hid) ρ2 H2 S2 ∧ Ext ρ1 H1 ρ2 H2 ∧
    compLoopC n xs tg (evalAnd c ifs) (evalE c elt) (QE.wipe env own) (xs.drop i) S2 = .ok ys2 S' ∧ acc ++ ys2 = ys) ⟨ρ1, S1, [], [], ys, upd_same, .nil, s1.hide hD, Ext.new hD, by simpa using q2, rfl⟩
    (fun i H2 _ p => ?_) (fun i v H2 H3 hi p y => ?_) fun H2 p => ?_
  · obtain ⟨ρ2, S2, _, _, ys2, _, _, s2, e2, hcl, _⟩ := p
    obtain ⟨vs, g, rr⟩ := here e2 s2 hcl
    exact ⟨vs, g, rr.length⟩
  · obtain ⟨ρ2, S2, acc, accv, ys2, hD2, racc, hs2, e2, hcl, hys⟩ := p
    obtain ⟨vs, g, rr⟩ := here e2 hs2 hcl
    obtain ⟨e3, y⟩ := y
    subst e3
    have hv := y vs g
    have hxi : xs[i]? = some xs[i] := List.getElem?_eq_getElem hi
    obtain ⟨v', hv', st, rx⟩ := rr.get hxi
    rw [hv] at hv'
    cases hv'
    have hd : xs.drop i = xs[i] :: xs.drop (i + 1) := List.drop_eq_getElem_cons hi
    have hcl0 := hcl
    rw [hd] at hcl
    unfold compLoopC at hcl
    split at hcl <;> try (cases hcl; done)
    cases hb : bindT tg xs[i] (QE.wipe env own) with
    | none => rw [hb] at hcl; cases hcl
    | some env' =>
      rw [hb] at hcl
      obtain ⟨b, S3, qt, hcl⟩ := bind_ok hcl
      have dn : D ∉ ρ2 := fun z => hs2.apart D z (by simp)
      have hE3 : ERep X.K (D :: hid) ρ2 H3 (QE.wipe env own) (L2.wipe σ own) := (((hE.mono e1).hide0 hD).mono e2).wipe own
      refine ⟨D :: hid, ρ2, QE.wipe env own, S2, xs[i], env', hE3, hs2, rx, hb, fun σ' hE' hw => ⟨by rw [hw own hown, wipe_wipe], D :: hid, ρ2, env', S2, hE', hs2, ?_⟩⟩
      rw [qt]
      intro ρ5 H5 e5 s5
      have dn5 : D ∉ ρ5 := fun z => s5.apart D z (by simp)
      have hD5 : H5 D = some (.lst accv) := e5.keep _ _ hD2 dn
      cases b with
      | false =>
        simp only [Bool.false_eq_true, if_false] at hcl ⊢
        exact ⟨ρ5, S3, acc, accv, ys2, hD5, RepL.mono e5 _ _ racc, s5, e2.trans e5, hcl, hys⟩
      | true =>
        simp only [if_true] at hcl ⊢
        obtain ⟨z, S4, qe, hcl⟩ := bind_ok hcl
        obtain ⟨ys3, S6, ql, hcl⟩ := bind_ok hcl
        cases hcl
        refine ⟨D :: hid, ρ5, env', S3, hE'.mono e5, s5, ?_⟩
        rw [qe]
        intro ρ6 H6 e6 s6 zv rz frz
        have hD6 : H6 D = some (.lst accv) := e6.keep _ _ hD5 dn5
        have hl : accv.length < sizeLine := by
          rw [racc.length, ← lim_eq]
          have := congrArg List.length hys
          rw [List.length_append, List.length_cons] at this
          omega
        have rall : RepL X.K (D :: hid) ρ6 H6 (acc ++ [z.settle]) (accv ++ [zv]) := (RepL.mono (e5.trans e6) _ _ racc).app (.cons ⟨st_settle z, rz.settle⟩ .nil)
        refine ⟨accv, hD6, hl, ρ6, S4, acc ++ [z.settle], accv ++ [zv], ys3, upd_same, RepL.to (to_over hD6 (fun xs => by simp)) _ _ rall, s6.over hD6 (fun xs => by simp), ((e2.trans e5).trans e6).over hD, ql, ?_⟩
        rw [List.append_assoc]
        exact hys
  · obtain ⟨ρ2, S2, acc, accv, ys2, hD2, racc, hs2, e2, hcl, hys⟩ := p
    rw [List.drop_length] at hcl
    unfold compLoopC at hcl
    split at hcl <;> cases hcl
    rw [List.append_nil] at hys
    subst hys
    have h9 := hk2 ρ2 H2 e2
    rw [if_pos hlim] at h9
    have dn : D ∉ ρ2 := fun z => hs2.apart D z (by simp)
    have dh : D ∉ hid := s1.new2 hD
    refine h9.pure hs2.seen (.ref D) ?_ ⟨D, rfl, e1.free (.of hD), hs2.take dh ⟨accv, hD2, racc⟩⟩
    simp only [Rep]
    exact ⟨D, accv, rfl, hD2, dn, dh, RepL.seen _ _ racc⟩
/-- as a value -/
theorem s_compC {xe tg iter : Expr} {xifs : List Expr} {scope : Scope} {own : List (Str × Nat)} {g : T} {e : E} {ifs : List E} {elt : E} (hc : X.calm = true) (hN : X.N.Nodup) (hi : PE X iter (tE X.K c e)) (ok : BlkOk X.N X.env.scope scope own)
    (hg : ∀ (s : Shared) (H : Hp) (C : Addr) (cl : List (Str × Addr)) (fp : List Addr), PG (X.blk s H scope (compEnvC scope cl C X.env) fp) tg (tG X.K g))
    (ht : ∀ (s : Shared) (H : Hp) (C : Addr) (cl : List (Str × Addr)) (fp : List Addr), PTs (X.blk s H scope (compEnvC scope cl C X.env) fp) xifs (tBs (evalAnd c) X.K ifs))
    (he : ∀ (s : Shared) (H : Hp) (C : Addr) (cl : List (Str × Addr)) (fp : List Addr), PE (X.blk s H scope (compEnvC scope cl C X.env) fp) xe (tE X.K c elt)) (hf : noSetE iter = true) (hown : ∀ i ∈ tgN g, i ∈ own.map (·.2)) :
    PE X (.ListComp xe [⟨tg, iter, xifs, 0⟩] scope pos) (tE X.K c (.compC (own.map (·.2)) g e ifs elt)) :=
  PE.imp (pe_lc hc hN (pi_list hi) ok hg ht he (no_fold hf X.env)) fun σ H Q h => lc_readC hown h
end
end QE

set_option Elab.async false
set_option linter.all false
set_option maxRecDepth 10000
set_option maxHeartbeats 1000000
/-! d.get(k, v), {k: v}, tuple(range(a, b)); comprehensions within except suites. -/
namespace QE
open PySem PySem.Spec PyProof.Rows L2 L2H
section
variable {X : Cx} {c : Ctx} {W : L2.WX} {pos apos p p2 pos2 : Pos} {x y nm : Str} {xa xb xo : Expr} {ea eb eo : E}
theorem few_two {cpos : Pos} {e f : Expr} {env : PySem.Env} (hp : plainE e = true) (hq : plainE f = true) : ((backTo cpos (starEach [e, f] env)).all (fun x => !x.1) && (backToKw cpos (keywordEach [] env)).all (fun x => x.1.isSome)
      && decide ([e, f].length + ([] : List Keyword).length + (if ([] : List Keyword).isEmpty then 0 else 1) < 30)) = true := by
  rw [star_cons hp, star_cons hq]
  rfl
theorem is_dic {K : PySem.W.Frag} {hid ρ : List Addr} {H : Hp} {S : Sto} {x : Val} {v : V} {t : Bool} {kvs : List (Val × Val)} (so : SOk K hid ρ H S) (e : asDic S x = some (t, kvs)) (r : Rep K hid ρ H x v) : ∃ a, v = .ref a ∧ IsD H a := by
  obtain ⟨a, ea, h⟩ := asDic_rep so e r
  rcases h with ⟨rfl, ws, h1, h2⟩ | ⟨rfl, ws, h1, h2⟩
  · exact ⟨a, ea, .inr ⟨ws, h1⟩⟩
  · exact ⟨a, ea, .inl ⟨ws, h1⟩⟩
theorem s_get (hu : X.A.units + 65 < cLine) (en : nm = PySem.Str.ofString "get") (ho : PE X xo (tE X.K c eo)) (ha : PE X xa (tE X.K c ea)) (hb : PE X xb (tE X.K c eb)) (hp : plainE xa = true) (hq : plainE xb = true) (hpo : plainO xo = true) (hl : (apos.endLine == pos.line) = true) :
    PE X (.Call (.Attribute xo nm apos) [xa, xb] [] pos) (tE X.K c (.get eo ea eb)) := by
  subst en
  refine PE.imp (pe_dget2 (by omega) ho ha hb ⟨plain_base hpo _ _, few_two hp hq, hl, by rw [star_cons hp, star_cons hq]; rfl⟩) fun σ H Q h => ?_
  obtain ⟨hid, ρ, env, S, hE, hs, h⟩ := h
  simp only [evalE] at h
  refine tE.of hE hs h fun x S1 ρ1 H1 v e1 s1 r1 f1 h1 => ?_
  obtain ⟨⟨t, kvs⟩, ed, h2⟩ := h1.some
  obtain ⟨a, ea', isd⟩ := is_dic s1 ed r1
  refine ⟨a, ea', isd, ?_⟩
  refine tE.of (hE.mono e1) s1 h2 fun y S2 ρ2 H2 w e2 s2 r2 f2 h3 => ?_
  refine tE.of ((hE.mono e1).mono e2) s2 h3 fun z S3 ρ3 H3 u e3 s3 r3 f3 h4 => ?_
  obtain ⟨r, hr, h5⟩ := h4.of
  unfold getV at hr
  split at hr
  · rename_i t' kvs' ed'
    split at hr
    · rename_i hk
      cases hr
      obtain ⟨a', o, ea2, g, hso, hg⟩ := dget_rep s3 ed' (Rep.mono e3 _ _ (Rep.mono e2 _ _ r1)) hk (Rep.mono e3 _ _ r2)
      rw [ea'] at ea2
      cases ea2
      refine ⟨o, g, ?_⟩
      cases hd : dGet y kvs' with
      | none =>
        rw [hd] at hso h5
        cases o with
        | some _ => cases hso
        | none => exact h5.pure s3 _ r3.settle (.of_st (st_settle z))
      | some q =>
        rw [hd] at h5
        obtain ⟨u', eo, st, ru⟩ := hg q hd
        subst eo
        exact h5.pure s3 _ ru (.of_st st)
    · cases hr
  · cases hr
theorem rep_range {K : PySem.W.Frag} {hid ρ : List Addr} {H : Hp} : ∀ (n : Nat) (a : Int), RepL K hid ρ H (rangeV a n) ((List.range n).map fun i => V.int (a + (i : Nat)))
  | 0, a => .nil
  | n + 1, a => by
    rw [List.range_succ_eq_map, List.map_cons, List.map_map]
    refine .cons ⟨rfl, ?_⟩ ?_
    · simp only [Rep]
      simp
    · have h := rep_range (K := K) (hid := hid) (ρ := ρ) (H := H) n (a + 1)
      have e : ((fun i : Nat => V.int (a + (i : Nat))) ∘ Nat.succ) = fun i : Nat => V.int (a + 1 + (i : Nat)) := by
        funext i
        simp only [Function.comp]
        congr 1
        omega
      rw [e]
      exact h
theorem s_trng (hc : X.calm = true) (ex : x = PySem.Str.ofString "tuple") (ey : y = PySem.Str.ofString "range") (hg : Gl X x) (hm : X.mg x = none) (hg2 : Gl X y) (hm2 : X.mg y = none) (ha : PE X xa (tE X.K c ea)) (hb : PE X xb (tE X.K c eb)) (hp : plainE xa = true) (hq : plainE xb = true) :
    PE X (.Call (.Name x p) [.Call (.Name y p2) [xa, xb] [] pos2] [] pos) (tE X.K c (.trng ea eb)) := by
  subst ex ey
  refine PE.imp (pe_tupRg hc hg hm (prg_2 hg2 hm2 ha hb (star_cons hp _ _) (star_cons hq _ _) (star_none _ _ _ (by simp [hq])))) fun σ H Q h => ?_
  obtain ⟨hid, ρ, env, S, hE, hs, h⟩ := h
  simp only [evalE] at h
  refine tE.of hE hs h fun x S1 ρ1 H1 v e1 s1 r1 f1 h1 => ?_
  obtain ⟨i, ei, h2⟩ := asInt_out h1
  subst ei
  refine tE.of (hE.mono e1) s1 h2 fun y S2 ρ2 H2 w e2 s2 r2 f2 h3 => ?_
  obtain ⟨j, ej, h4⟩ := asInt_out h3
  subst ej
  refine ⟨i, j, r1.int_, r2.int_, ?_⟩
  unfold rangeOf at h4
  split at h4
  · rename_i hr
    simp only [R.bind, rangeV_len] at h4
    split at h4
    · rename_i hz
      refine ⟨⟨hr.1, hr.2.1, hr.2.2.1, hr.2.2.2, by unfold lim at hz; omega⟩, fun q hq => ?_⟩
      exact h4 ρ2 _ (Ext.new hq) (s2.new hq) _ (rep_newT hq (rep_range _ _)) trivial
    · exact h4.elim
  · exact h4.elim
theorem s_d1 (ha : PE X xa (tE X.K c ea)) (hb : PE X xb (tE X.K c eb)) : PE X (.Dict [some xa] [xb] pos) (tE X.K c (.d1 false ea eb)) := by
  refine PE.imp (pe_disp (pps_cons ha hb pps_nil) rfl rfl (by simp) (by simp)) fun σ H Q h => ?_
  obtain ⟨hid, ρ, env, S, hE, hs, h⟩ := h
  simp only [evalE] at h
  intro D hD
  have eD : Ext ρ H ρ (upd H D (.dK [])) := Ext.new hD
  have sD : SOk X.K (D :: hid) ρ (upd H D (.dK [])) S := hs.hide hD
  show tE X.K c ea σ _ _
  obtain ⟨kx, S1, q1, hk1⟩ := h.bind
  refine ⟨D :: hid, ρ, env, S, hE.hide hD, sD, ?_⟩
  rw [q1]
  intro ρ1 H1 e1 s1 kv rk fk
  obtain ⟨vx, S2, q2, hk2⟩ := (hk1 ρ H (Ext.refl _ _)).bind
  refine ⟨D :: hid, ρ1, env, S1, (hE.hide hD).mono e1, s1, ?_⟩
  rw [q2]
  intro ρ2 H2 e2 s2 vv rv fv
  have hD2 : H2 D = some (.dK []) := e2.keep _ _ (e1.keep _ _ upd_same (fun z => sD.apart D z (by simp))) (fun z => s1.apart D z (by simp))
  refine ⟨hD2, ?_⟩
  have h3 := hk2 ρ H (Ext.refl _ _)
  split at h3
  · rename_i hkey
    have hkey : kx.flatKey = true := hkey
    have ek : kv = kV (keyOf kx) := by
      cases kx <;> first | (cases hkey; done) | skip
      · exact rk.int_
      · exact rk.str_
    refine ⟨[(keyOf kx, vv)], by rw [ek]; rfl, by simp, ?_⟩
    have fin : Ext ρ H ρ2 (upd H2 D (.dK (mergeK [] [(keyOf kx, vv)]))) := ((eD.trans e1).trans e2).over hD
    have s3 : SOk X.K (D :: hid) ρ2 (upd H2 D (.dK (mergeK [] [(keyOf kx, vv)]))) S2 := s2.over hD2 (fun xs z => by cases z)
    have dn : D ∉ ρ2 := fun z => s2.apart D z (by simp)
    have dh : D ∉ hid := hs.new2 hD
    have rk' : RepK X.K (D :: hid) ρ2 (upd H2 D (.dK (mergeK [] [(keyOf kx, vv)]))) [(kx, vx.settle)] (mergeK [] [(keyOf kx, vv)]) := by
      show RepK _ _ _ _ _ [(keyOf kx, vv)]
      simp only [RepK]
      exact ⟨vv, [], rfl, hkey, ⟨st_settle vx, (Rep.to (to_over hD2 (fun xs z => by cases z)) _ _ rv).settle⟩, rfl⟩
    refine h3 ρ2 _ fin s3.seen (.ref D) ?_ ⟨D, rfl, .of hD, s3.take dh ⟨_, upd_same, rk'⟩⟩
    simp only [Rep]
    exact ⟨D, _, rfl, upd_same, dn, dh, RepK.seen _ _ rk'⟩
  · exact h3.elim
/-! ### within an except suite -/
theorem g_tupH {es : List Expr} {ts : List T} {k : Nat} (hc : HotC X) (h : PGs X es (tGs X.K ts)) (hp : es.all plainG = true) (hl : es.length = ts.length) : PG X (.Tuple es k pos) (tG X.K (.tup ts)) := by
  obtain ⟨h1, h2⟩ := each_len X.env es hp
  refine PG.imp (QH.pg_tupQ (n := es.length) hc h h1 h2) fun v σ H Q hh => ?_
  obtain ⟨hid, ρ, env, S, x, env', hE, hs, r, b, q⟩ := hh
  cases x with
  | tup xs =>
    simp only [Rep] at r
    obtain ⟨a, vs, ev, ha, rl⟩ := r
    simp only [bindT] at b
    refine ⟨a, vs, ev, SqT.of ha, ?_, hid, ρ, env, S, xs, env', hE, hs, rl, b, q⟩
    rw [rl.length, hl]
    exact bindTs_len b
  | _ => simp [bindT] at b
theorem i_zipH {tpos : Pos} {elts : List Expr} {kk : Nat} (ex : x = PySem.Str.ofString "zip") (hg : Gl X x) (hm : X.mg x = none) (ha : PE X xa (tE X.K c ea)) (hp : plainE xa = true) (hb : PE X xb (tE X.K c eb)) (hq : plainE xb = true) :
    PIH X (.Tuple elts kk tpos) (.Call (.Name x p) [xa, xb] [] pos) (tI X.K c (.zipL ea eb)) := by
  subst ex
  refine ⟨fun pins s σ H R I h => (QH.pi_zipQ hg hm (pa_cons ha (pa_cons hb pa_nil (star_cons hq _ _)) (star_cons hp _ _)) (star_cons hp _ _) (star_none _ _ _ (by simp [hq]))).run pins s σ H R I ?_⟩
  obtain ⟨hid, ρ, env, S, hE, hs, h⟩ := h
  simp only [evalSrc] at h
  refine tE.of hE hs h fun v S1 ρ1 H1 u e1 s1 r1 f1 h1 => ?_
  refine tE.of (hE.mono e1) s1 h1 fun w S2 ρ2 H2 u2 e2 s2 r2 f2 h2 => ?_
  obtain ⟨pq, hw, h3⟩ := h2.some
  unfold listsOf at hw
  split at hw
  · rename_i f1 ys f2 zs
    cases hw
    have r1 := Rep.mono e2 _ _ r1
    simp only [Rep] at r1 r2
    obtain ⟨a, vs, q1, q2, q3, q4, q5⟩ := r1
    obtain ⟨b, ws, k1, k2, k3, k4, k5⟩ := r2
    subst q1 k1
    exact ⟨a, b, vs, ws, rfl, .inl q2.rd, .inl k2.rd, h3.pure s2 _ (.zipL q2.rd q3 q5 k2.rd k3 k5)⟩
  · cases hw
theorem s_compH {xe tg iter : Expr} {xifs : List Expr} {scope : Scope} {own : List (Str × Nat)} {g : T} {src : Src} {ifs : List E} {elt : E} (hc : HotC X) (hN : X.N.Nodup) (hi : PIH X tg iter (tI X.K c src)) (ok : BlkOk X.N X.env.scope scope own)
    (hg : ∀ (z : Shared) (G : Hp) (C : Addr) (cl : List (Str × Addr)) (fp : List Addr), PG (QH.blkQ X z G scope (compEnvC scope cl C X.env) fp) tg (tG X.K g))
    (ht : ∀ (z : Shared) (G : Hp) (C : Addr) (cl : List (Str × Addr)) (fp : List Addr), PTs (QH.blkQ X z G scope (compEnvC scope cl C X.env) fp) xifs (tBs (evalAnd c) X.K ifs))
    (he : ∀ (z : Shared) (G : Hp) (C : Addr) (cl : List (Str × Addr)) (fp : List Addr), PE (QH.blkQ X z G scope (compEnvC scope cl C X.env) fp) xe (tE X.K c elt)) (hf : noSetE iter = true) (hown : ∀ i ∈ tgN g, i ∈ own.map (·.2)) :
    PE X (.ListComp xe [⟨tg, iter, xifs, 0⟩] scope pos) (tE X.K c (.comp (own.map (·.2)) g src ifs elt)) :=
  PE.imp (QH.pe_lcQ hc hN hi ok hg ht he (no_fold hf X.env)) fun σ H Q h => lc_read hown h
theorem s_setCompH {i : Nat} {y : Str} {py spos : Pos} {xe tg iter : Expr} {xifs : List Expr} {scope : Scope} {own : List (Str × Nat)} {g : T} {src : Src} {ifs : List E} {elt e' : E} (rd : ∀ σ H Q, tE X.K c e' σ H Q → tE X.K c (.comp (own.map (·.2)) g src ifs elt) σ H Q)
    (hc : HotC X) (hN : X.N.Nodup) (hy : X.N[i]? = some y) (hyl : X.env.scope.names.lookup y = some .local)
    (hsw : swapsWith (.ListComp xe [⟨tg, iter, xifs, 0⟩] scope pos) (some (.Name y py)) spos.line X.env = pure true) (hi : PIH X tg iter (tI X.K c src)) (ok : BlkOk X.N X.env.scope scope own)
    (hg : ∀ (z : Shared) (G : Hp) (C : Addr) (cl : List (Str × Addr)) (fp : List Addr), PG (QH.blkQ X z G scope (compEnvC scope cl C X.env) fp) tg (tG X.K g))
    (ht : ∀ (z : Shared) (G : Hp) (C : Addr) (cl : List (Str × Addr)) (fp : List Addr), PTs (QH.blkQ X z G scope (compEnvC scope cl C X.env) fp) xifs (tBs (evalAnd c) X.K ifs))
    (he : ∀ (z : Shared) (G : Hp) (C : Addr) (cl : List (Str × Addr)) (fp : List Addr), PE (QH.blkQ X z G scope (compEnvC scope cl C X.env) fp) xe (tE X.K c elt)) (hf : noSetE iter = true) (hown : ∀ i ∈ tgN g, i ∈ own.map (·.2)) :
    PS X (.Assign [.Name y py] (.ListComp xe [⟨tg, iter, xifs, 0⟩] scope pos) spos) (tS X.K c W (.asg (.name i) e')) :=
  PS.imp (QH.ps_setLcQ hc hN hy hyl hsw hi ok hg ht he (no_fold hf X.env)) fun D σ H h => lc_read hown (rd _ _ _ (set_read h))
end
end QE

set_option Elab.async false
set_option linter.all false
set_option maxRecDepth 10000
set_option maxHeartbeats 1000000
/-! A def: what its body does, it promises. -/
namespace QE
open PySem PySem.Spec PyProof.Rows L2
section
variable {K : PySem.W.Frag} {hid ρ ρ' : List Addr} {H : Hp}
mutual
theorem Rep.isLow : ∀ (x : Val) (v : V), Rep K hid ρ H x v → x.low ρ.length = true
  | .non, v, h => rfl
  | .bl b, v, h => rfl
  | .int i, v, h => rfl
  | .str s, v, h => rfl
  | .tup xs, v, h => by
    simp only [Rep] at h
    obtain ⟨a, vs, h1, h2, h3⟩ := h
    simp only [Val.low]
    exact RepL.isLow xs vs h3
  | .lst f xs, v, h => by
    simp only [Rep] at h
    obtain ⟨a, vs, h1, h2, h3, h4, h5⟩ := h
    simp only [Val.low]
    exact RepL.isLow xs vs h5
  | .dic f true kvs, v, h => by
    simp only [Rep] at h
    obtain ⟨a, vs, h1, h2, h3, h4, h5⟩ := h
    simp only [Val.low]
    exact RepT.isLow kvs vs h5
  | .dic f false kvs, v, h => by
    simp only [Rep] at h
    obtain ⟨a, vs, h1, h2, h3, h4, h5⟩ := h
    simp only [Val.low]
    exact RepK.isLow kvs vs h5
  | .ref n, v, h => by
    simp only [Rep] at h
    obtain ⟨a, h1, h2⟩ := h
    simp only [Val.low, decide_eq_true_eq]
    exact (List.getElem?_eq_some_iff.mp h1).1
  | .kls ns, v, h => rfl
  | .fn _ _, v, h => rfl
  | .exn _ _, v, h => rfl
  | .ptup xs, v, h => by
    simp only [Rep] at h
    obtain ⟨a, vs, h1, h2, h3⟩ := h
    simp only [Val.low]
    exact RepL.isLow xs vs h3
theorem RepL.isLow : ∀ (xs : List Val) (vs : List V), RepL K hid ρ H xs vs → Val.lowL ρ.length xs = true
  | [], vs, h => rfl
  | x :: xs, vs, h => by
    simp only [RepL] at h
    obtain ⟨v, r, h1, h2, h3⟩ := h
    simp only [Val.lowL, Bool.and_eq_true]
    exact ⟨Rep.isLow x v h2.2, RepL.isLow xs r h3⟩
theorem RepK.isLow : ∀ (xs : List (Val × Val)) (ws : List (L2.Key × V)), RepK K hid ρ H xs ws → Val.lowD ρ.length xs = true
  | [], vs, h => rfl
  | (k, x) :: xs, vs, h => by
    simp only [RepK] at h
    obtain ⟨v, r, h1, h4, h2, h3⟩ := h
    simp only [Val.lowD, Bool.and_eq_true]
    exact ⟨Rep.isLow x v h2.2, RepK.isLow xs r h3⟩
theorem RepT.isLow : ∀ (xs : List (Val × Val)) (ws : List (List L2.Key × V)), RepT K hid ρ H xs ws → Val.lowD ρ.length xs = true
  | [], vs, h => rfl
  | (k, x) :: xs, vs, h => by
    simp only [RepT] at h
    obtain ⟨v, r, h1, h4, h2, h3⟩ := h
    simp only [Val.lowD, Bool.and_eq_true]
    exact ⟨Rep.isLow x v h2.2, RepT.isLow xs r h3⟩
end
theorem SOk.lowAt {S : Sto} (s : SOk K hid ρ H S) : LowAt S.length S := by
  refine ⟨Nat.le_refl _, fun n ob hn q => ?_⟩
  obtain ⟨a, h1, h2⟩ := s.ob n ob q
  rw [← s.len]
  cases ob with
  | lst xs =>
    obtain ⟨vs, q1, q2⟩ := h2
    exact RepL.isLow xs vs q2
  | dic t kvs =>
    cases t with
    | true =>
      obtain ⟨vs, q1, q2⟩ := h2
      exact RepT.isLow kvs vs q2
    | false =>
      obtain ⟨vs, q1, q2⟩ := h2
      exact RepK.isLow kvs vs q2
  | tbl p q => rfl
/-- fewer cells -/
structure Fewer (b : Nat) (ρ ρ' : List Addr) : Prop where
  at_ : ∀ (n : Nat) (a : Addr), n < b → ρ[n]? = some a → ρ'[n]? = some a
  sub : ∀ a, a ∉ ρ → a ∉ ρ'
variable {b : Nat}
mutual
theorem Rep.few (m : Fewer b ρ ρ') : ∀ (x : Val) (v : V), x.low b = true → Rep K hid ρ H x v → Rep K hid ρ' H x v
  | .non, v, _, h => by simp only [Rep] at h ⊢; exact h
  | .bl b, v, _, h => by simp only [Rep] at h ⊢; exact h
  | .int i, v, _, h => by simp only [Rep] at h ⊢; exact h
  | .str s, v, _, h => by simp only [Rep] at h ⊢; exact h
  | .tup xs, v, l, h => by
    simp only [Rep, Val.low] at h l ⊢
    obtain ⟨a, vs, h1, h2, h3⟩ := h
    exact ⟨a, vs, h1, h2, RepL.few m xs vs l h3⟩
  | .lst f xs, v, l, h => by
    simp only [Rep, Val.low] at h l ⊢
    obtain ⟨a, vs, h1, h2, h3, h4, h5⟩ := h
    exact ⟨a, vs, h1, h2, m.sub a h3, h4, RepL.few m xs vs l h5⟩
  | .dic f true kvs, v, l, h => by
    simp only [Rep, Val.low] at h l ⊢
    obtain ⟨a, vs, h1, h2, h3, h4, h5⟩ := h
    exact ⟨a, vs, h1, h2, m.sub a h3, h4, RepT.few m kvs vs l h5⟩
  | .dic f false kvs, v, l, h => by
    simp only [Rep, Val.low] at h l ⊢
    obtain ⟨a, vs, h1, h2, h3, h4, h5⟩ := h
    exact ⟨a, vs, h1, h2, m.sub a h3, h4, RepK.few m kvs vs l h5⟩
  | .ref n, v, l, h => by
    simp only [Rep, Val.low, decide_eq_true_eq] at h l ⊢
    obtain ⟨a, h1, h2⟩ := h
    exact ⟨a, m.at_ n a l h1, h2⟩
  | .kls ns, v, _, h => by simp only [Rep] at h ⊢; exact h
  | .fn _ _, v, _, h => by simp only [Rep] at h ⊢; exact h
  | .exn _ _, v, _, h => by simp only [Rep] at h ⊢; exact h
  | .ptup xs, v, l, h => by
    simp only [Rep, Val.low] at h l ⊢
    obtain ⟨a, vs, h1, h2, h3⟩ := h
    exact ⟨a, vs, h1, h2, RepL.few m xs vs l h3⟩
theorem RepL.few (m : Fewer b ρ ρ') : ∀ (xs : List Val) (vs : List V), Val.lowL b xs = true → RepL K hid ρ H xs vs → RepL K hid ρ' H xs vs
  | [], vs, _, h => by simp only [RepL] at h ⊢; exact h
  | x :: xs, vs, l, h => by
    simp only [RepL, Val.lowL, Bool.and_eq_true] at h l ⊢
    obtain ⟨v, r, h1, h2, h3⟩ := h
    exact ⟨v, r, h1, ⟨h2.1, Rep.few m x v l.1 h2.2⟩, RepL.few m xs r l.2 h3⟩
theorem RepK.few (m : Fewer b ρ ρ') : ∀ (xs : List (Val × Val)) (ws : List (L2.Key × V)), Val.lowD b xs = true → RepK K hid ρ H xs ws → RepK K hid ρ' H xs ws
  | [], vs, _, h => by simp only [RepK] at h ⊢; exact h
  | (k, x) :: xs, vs, l, h => by
    simp only [RepK, Val.lowD, Bool.and_eq_true] at h l ⊢
    obtain ⟨v, r, h1, h4, h2, h3⟩ := h
    exact ⟨v, r, h1, h4, ⟨h2.1, Rep.few m x v l.1 h2.2⟩, RepK.few m xs r l.2 h3⟩
theorem RepT.few (m : Fewer b ρ ρ') : ∀ (xs : List (Val × Val)) (ws : List (List L2.Key × V)), Val.lowD b xs = true → RepT K hid ρ H xs ws → RepT K hid ρ' H xs ws
  | [], vs, _, h => by simp only [RepT] at h ⊢; exact h
  | (k, x) :: xs, vs, l, h => by
    simp only [RepT, Val.lowD, Bool.and_eq_true] at h l ⊢
    obtain ⟨v, r, h1, h4, h2, h3⟩ := h
    exact ⟨v, r, h1, h4, ⟨h2.1, Rep.few m x v l.1 h2.2⟩, RepT.few m xs r l.2 h3⟩
end
theorem ObRep.few (m : Fewer b ρ ρ') {a : Addr} : ∀ {o : Ob}, o.low b = true → ObRep K hid ρ H a o → ObRep K hid ρ' H a o
  | .lst xs, l, ⟨vs, h1, h2⟩ => ⟨vs, h1, RepL.few m xs vs l h2⟩
  | .dic true xs, l, ⟨vs, h1, h2⟩ => ⟨vs, h1, RepT.few m xs vs l h2⟩
  | .dic false xs, l, ⟨vs, h1, h2⟩ => ⟨vs, h1, RepK.few m xs vs l h2⟩
  | .tbl p q, l, ⟨ea, ps, h1, h2, h3⟩ => ⟨ea, ps, h1, h2, fun pos cv hc => let ⟨c, e1, e2, e3⟩ := h3 pos cv hc; ⟨c, e1, m.sub c e2, e3⟩⟩
theorem fewer_app {new : List Addr} (hb : ρ.length = b) : Fewer b (ρ ++ new) ρ :=
  ⟨fun n a hn q => by rwa [List.getElem?_append_left (by omega)] at q, fun a h z => h (List.mem_append_left _ z)⟩
theorem fewer_app1 {new : List Addr} {a : Addr} (hb : ρ.length = b) (ha : a ∈ new) : Fewer b (ρ ++ new) (ρ ++ [a]) :=
  ⟨fun n c hn q => by rw [List.getElem?_append_left (by omega)] at q ⊢; exact q, fun c h z => by
    rcases List.mem_append.mp z with z | z
    · exact h (List.mem_append_left _ z)
    · rw [List.mem_singleton.mp z] at h; exact h (List.mem_append_right _ ha)⟩
theorem fewer_app2 {new : List Addr} {a : Addr} (hb : ρ.length = b) : Fewer b (ρ ++ new ++ [a]) (ρ ++ [a]) :=
  ⟨fun n c hn q => by rw [List.append_assoc, List.getElem?_append_left (by omega)] at q; rw [List.getElem?_append_left (by omega)]; exact q, fun c h z => by
    rcases List.mem_append.mp z with z | z
    · exact h (List.mem_append_left _ (List.mem_append_left _ z))
    · exact h (List.mem_append_right _ z)⟩
/-- the first cells -/
theorem SOk.first {new : List Addr} {S : Sto} (s : SOk K hid (ρ ++ new) H S) (hb : ρ.length = b) (l : LowAt b S) : SOk K hid ρ H (S.take b) := by
  refine ⟨by rw [List.length_take]; have := l.1; omega, (List.nodup_append.mp s.nd).1, fun a ha => s.apart a (List.mem_append_left _ ha), s.hidd, fun n ob q => ?_⟩
  have hn : n < b := by
    have := (List.getElem?_eq_some_iff.mp q).1
    rw [List.length_take] at this
    omega
  rw [List.getElem?_take_of_lt hn] at q
  obtain ⟨a, h1, h2⟩ := s.ob n ob q
  rw [List.getElem?_append_left (by omega)] at h1
  exact ⟨a, h1, h2.few (fewer_app hb) (l.2 n ob hn q)⟩
/-- the first cells and one more -/
theorem SOk.firstAnd {ρ1 : List Addr} {S : Sto} {a : Addr} {ob : Ob} (s : SOk K hid ρ1 H S) (m : Fewer b ρ1 (ρ ++ [a])) (hb : ρ.length = b) (ma : a ∈ ρ1) (na : a ∉ ρ) (nd : ρ.Nodup) (ap : ∀ c ∈ ρ, c ∈ ρ1) (l : LowAt b S) (h : ObRep K hid ρ1 H a ob) (lo : ob.low b = true) :
    SOk K hid (ρ ++ [a]) H (S.take b ++ [ob]) := by
  have hl : (S.take b).length = b := by rw [List.length_take]; have := l.1; omega
  refine ⟨by simp [hb, hl], ?_, ?_, s.hidd, fun n o q => ?_⟩
  · rw [List.nodup_append]
    exact ⟨nd, by simp, fun x hx y hy => by
      rw [List.mem_singleton] at hy
      subst hy
      exact fun z => na (z ▸ hx)⟩
  · intro c hc
    rcases List.mem_append.mp hc with hc | hc
    · exact s.apart c (ap c hc)
    · rw [List.mem_singleton.mp hc]; exact s.apart a ma
  · by_cases hn : n < b
    · rw [List.getElem?_append_left (by omega), List.getElem?_take_of_lt hn] at q
      obtain ⟨c, h1, h2⟩ := s.ob n o q
      exact ⟨c, m.at_ n c hn h1, h2.few m (l.2 n o hn q)⟩
    · have hn2 : n = b := by
        have := (List.getElem?_eq_some_iff.mp q).1
        simp [hl] at this
        omega
      subst hn2
      rw [List.getElem?_append_right (by omega)] at q
      simp [hl] at q
      subst q
      refine ⟨a, ?_, h.few m lo⟩
      rw [List.getElem?_append_right (by omega)]
      simp [hb]
end
section
variable {K : PySem.W.Frag} {hid ρ : List Addr} {H : Hp} {S : Sto}
/-- what is handed back -/
theorem freeze1_ok {ρ' new : List Addr} {H0 H' : Hp} {S' : Sto} {v v' : Val} {u : V} (eρ : ρ' = ρ ++ new) (hn : ∀ a ∈ new, Gone H0 a) (s : SOk K hid ρ' H' S') (l : LowAt ρ.length S') (e : freeze1 ρ.length S' v = some v') (r : Rep K hid ρ' H' v u) (fr : Fresh K hid ρ' H' S' H0 v u) :
    Rep K hid ρ H' v' u ∧ Fresh K hid ρ H' (S'.take ρ.length) H0 v' u := by
  subst eρ
  have nd := (List.nodup_append.mp s.nd).1
  have nn : ∀ a ∈ new, a ∉ ρ := fun a ha z => (List.nodup_append.mp s.nd).2.2 a z a ha rfl
  have mem : ∀ c ∈ ρ, c ∈ ρ ++ new := fun c hc => List.mem_append_left _ hc
  have val : v.low ρ.length = true → some v = some v' → Rep K hid ρ H' v' u ∧ Fresh K hid ρ H' (S'.take ρ.length) H0 v' u := fun lo e => by
    cases e
    refine ⟨Rep.few (fewer_app rfl) _ _ lo r, ?_⟩
    unfold Fresh at fr ⊢
    split
    · rename_i xs
      obtain ⟨a, h1, h2, h3⟩ := fr
      refine ⟨a, h1, h2, ?_⟩
      have hl := h3.len
      have na : a ∉ ρ ++ new := fun z => (List.nodup_append.mp h3.nd).2.2 a z a (by simp) rfl
      obtain ⟨c, q1, q2⟩ := h3.ob S'.length (.lst xs) (by simp)
      have hc : c = a := by
        rw [← s.len, List.getElem?_append_right (Nat.le_refl _)] at q1
        simp at q1
        exact q1.symm
      subst hc
      have l2 : LowAt ρ.length (S' ++ [Ob.lst xs]) := l.push
      have := h3.firstAnd (fewer_app2 rfl) rfl (by simp) (fun z => na (mem _ z)) nd (fun c hc => List.mem_append_left _ (mem c hc)) l2 q2 (by simpa only [Val.low, Ob.low] using lo)
      rw [List.take_append_of_le_length l.1] at this
      exact this
    · rename_i t kvs
      obtain ⟨a, h1, h2, h3⟩ := fr
      refine ⟨a, h1, h2, ?_⟩
      have na : a ∉ ρ ++ new := fun z => (List.nodup_append.mp h3.nd).2.2 a z a (by simp) rfl
      obtain ⟨c, q1, q2⟩ := h3.ob S'.length (.dic t kvs) (by simp)
      have hc : c = a := by
        rw [← s.len, List.getElem?_append_right (Nat.le_refl _)] at q1
        simp at q1
        exact q1.symm
      subst hc
      have l2 : LowAt ρ.length (S' ++ [Ob.dic t kvs]) := l.push
      have := h3.firstAnd (fewer_app2 rfl) rfl (by simp) (fun z => na (mem _ z)) nd (fun c hc => List.mem_append_left _ (mem c hc)) l2 q2 (by simpa only [Val.low, Ob.low] using lo)
      rw [List.take_append_of_le_length l.1] at this
      exact this
    · trivial
  unfold freeze1 at e
  split at e
  · rename_i n
    split at e
    · rename_i hlt
      exact val (by simpa only [Val.low, decide_eq_true_eq] using hlt) e
    · rename_i hge
      split at e
      · rename_i xs hq
        split at e
        · rename_i lo
          cases e
          obtain ⟨a, ea, ha, hob⟩ := s.cell r hq
          subst ea
          have ha' : a ∈ new := by
            rw [List.getElem?_append_right (by omega)] at ha
            exact List.mem_of_getElem? ha
          have lo' : (Ob.lst xs).low ρ.length = true := lo
          have hob' := hob.few (fewer_app (ρ := ρ) rfl) lo'
          obtain ⟨vs, q1, q2⟩ := hob'
          refine ⟨?_, a, rfl, hn a ha', s.firstAnd (fewer_app1 rfl ha') rfl (List.mem_append_right _ ha') (nn a ha') nd mem l hob lo⟩
          simp only [Rep]
          exact ⟨a, vs, rfl, q1, nn a ha', s.apart a (List.mem_append_right _ ha'), q2⟩
        · cases e
      · rename_i t kvs hq
        split at e
        · rename_i lo
          cases e
          obtain ⟨a, ea, ha, hob⟩ := s.cell r hq
          subst ea
          have ha' : a ∈ new := by
            rw [List.getElem?_append_right (by omega)] at ha
            exact List.mem_of_getElem? ha
          have lo' : (Ob.dic t kvs).low ρ.length = true := lo
          have hob' := hob.few (fewer_app (ρ := ρ) rfl) lo'
          refine ⟨?_, a, rfl, hn a ha', s.firstAnd (fewer_app1 rfl ha') rfl (List.mem_append_right _ ha') (nn a ha') nd mem l hob lo⟩
          cases t with
          | true =>
            obtain ⟨vs, q1, q2⟩ := hob'
            simp only [Rep]
            exact ⟨a, vs, rfl, q1, nn a ha', s.apart a (List.mem_append_right _ ha'), q2⟩
          | false =>
            obtain ⟨vs, q1, q2⟩ := hob'
            simp only [Rep]
            exact ⟨a, vs, rfl, q1, nn a ha', s.apart a (List.mem_append_right _ ha'), q2⟩
        · cases e
      · cases e
  · split at e
    · rename_i lo
      exact val lo e
    · cases e
theorem freezeL_ok {ρ' new : List Addr} {H0 H' : Hp} {S' : Sto} (eρ : ρ' = ρ ++ new) (hn : ∀ a ∈ new, Gone H0 a) (s : SOk K hid ρ' H' S') (l : LowAt ρ.length S') : ∀ {xs ys : List Val} {us : List V}, freezeL ρ.length S' xs = some ys → RepL K hid ρ' H' xs us → RepL K hid ρ H' ys us
  | [], ys, us, e, r => by
    simp only [freezeL, Option.some.injEq] at e
    subst e
    simp only [RepL] at r ⊢
    exact r
  | x :: xs, ys, us, e, r => by
    simp only [freezeL] at e
    split at e
    · rename_i y zs h1 h2
      cases e
      simp only [RepL] at r
      obtain ⟨v, w, ev, rx, rr⟩ := r
      subst ev
      exact .cons ⟨st_settle y, (freeze1_ok eρ hn s l h1 rx.2 (.of_st rx.1)).1.settle⟩ (freezeL_ok eρ hn s l h2 rr)
    · cases e
theorem freeze_ok {ρ' new : List Addr} {H0 H' : Hp} {S' : Sto} {v v' : Val} {u : V} (eρ : ρ' = ρ ++ new) (hn : ∀ a ∈ new, Gone H0 a) (s : SOk K hid ρ' H' S') (l : LowAt ρ.length S') (e : freeze ρ.length S' v = some v') (r : Rep K hid ρ' H' v u) (fr : Fresh K hid ρ' H' S' H0 v u) :
    Rep K hid ρ H' v' u ∧ Fresh K hid ρ H' (S'.take ρ.length) H0 v' u := by
  unfold freeze at e
  split at e
  · split at e
    · rename_i ys hy
      cases e
      simp only [Rep] at r ⊢
      obtain ⟨a, vs, h1, h2, h3⟩ := r
      exact ⟨⟨a, vs, h1, h2, freezeL_ok eρ hn s l hy h3⟩, trivial⟩
    · cases e
  · exact freeze1_ok eρ hn s l e r fr
theorem Ext.back {new : List Addr} {H' : Hp} (e : Ext ρ H (ρ ++ new) H') : Ext ρ H ρ H' := ⟨⟨[], by simp, by simp⟩, e.keep0, e.there0, e.tups, e.frzs⟩
theorem finish_ok {c : Ctx} {r : R (Fl × Env)} {Q : VK} {Z : XK} (hs : SOk K hid ρ H S) (kp : KeepR S.length r) (h : OutS K hid ρ H (finish S.length r) (Gv K hid H Q) (fun k _ _ H' => ∀ C, c.cls k = some C → Z (.ref C) none H')) :
    OutS K hid ρ H r (Fin K hid H { nx := fun _ H' => Q .non H', rt := Q }) (XW c fun cls d _ H => Z cls d H) := by
  cases r with
  | bad => exact h.elim
  | exc k ps S' =>
    intro ρ' H' e s C hC σ
    obtain ⟨new, eρ, hn⟩ := e.more
    have kp' : LowAt S.length S' := kp
    simp only [finish] at h
    rw [← hs.len] at kp' h
    subst eρ
    exact h ρ H' e.back (s.first rfl kp') C hC
  | ok f S' =>
    intro ρ' H' e s
    obtain ⟨new, eρ, hn⟩ := e.more
    obtain ⟨f, env⟩ := f
    have kp' : LowAt S.length S' := kp
    rw [← hs.len] at kp' h
    cases f with
    | bk => exact h.elim
    | ct => exact h.elim
    | nx =>
      intro σ' hE
      subst eρ
      exact h ρ H' e.back (s.first rfl kp') .non .of_non trivial
    | rt v =>
      intro u ru fu
      simp only [finish] at h
      split at h
      · exact h ρ' H' e s u ru fu
      · cases hv : freeze ρ.length S' v with
        | none => rw [hv] at h; exact h ρ' H' e s u ru fu
        | some v' =>
          rw [hv] at h
          obtain ⟨q1, q2⟩ := freeze_ok eρ hn s kp' hv ru fu
          subst eρ
          exact h ρ H' e.back (s.first rfl kp') u q1 q2
/-- a def of the text, its body told by the evaluator's -/
theorem fn_okQ {P : Program} {w : World} {mg : Str → Option Value} {base : Heap} {x qual : Str} {st : Stmt} {fa : Addr} {fd : FuncData} {N ps : List Str} {k j f : Nat} {PG : Prog} {d : Def} (F : Fun K x qual st fa fd) (SC : FnScope N ps (defScope st)) (hd : PG.fns[f]? = some d) (ha : d.arity = ps.length) (hz : d.size = N.length)
    (hbody : ∀ (cdv : Value) (A : Around) (outer : List PySem.Env) (s : Shared) (H : Hp) (Z : XK) (b : Nat), PySem.W.codeIn K cdv qual = true → fd.code = cdv → Room k (A.deeper (envOfC qual (defScope st) s.heap.objs.size fa cdv)) →
      PSs (cxOf (L2N.CX P w) P w K mg base N qual (defScope st) fa cdv A outer s H Z) (defBody st) (tSs K (ctxOf PG (callFn PG j) b) (fun cls d _ H => Z cls d H) d.body)) :
    FnOk P w K mg base (L2N.CX P w) (k + 1) fa fd ps (spF K (fun i => PG.cls[i]?) (callFn PG (j + 1)) f) := by
  obtain ⟨oc, od, kV, doc, pm, an, cdv, ct, osl, rfl, lk, hcd⟩ := F.ex
  refine fn_of lk hcd SC (fun vs H Q E h => ?_) fun A outer s H vs Q Z hr h => ?_
  · obtain ⟨hid, ρ, S, xs, hs, rl, o⟩ := h
    simp only [callFn, hd] at o
    split at o
    · rename_i hl
      rw [rl.length, hl, ha]
    · exact o.elim
  · obtain ⟨hid, ρ, S, xs, hs, rl, o⟩ := h
    simp only [callFn, hd] at o
    split at o
    · rename_i hl
      refine ⟨_, hbody cdv A outer s H Z S.length hcd rfl hr, hid, ρ, _, S, ?_, hs, finish_ok (c := ctxOf PG (callFn PG j) S.length) hs (keepSs (c := ctxOf PG (callFn PG j) S.length) (Nat.le_refl _) (fun f vs S h => keepFn j f vs S h) d.body _ S hs.lowAt) o⟩
      have lv := rl.length
      refine ⟨by simp [L2.start, lv, hz, hl, ha], fun i y q => ?_⟩
      have hi : i < xs.length := by
        by_cases hi : i < xs.length
        · exact hi
        · rw [List.getElem?_append_right (by simpa using hi)] at q
          have := List.mem_of_getElem? q
          rw [List.mem_replicate] at this
          cases this.2
      rw [List.getElem?_append_left (by simpa using hi)] at q
      have q : xs[i]? = some y := by simpa using q
      obtain ⟨v, h1, h2⟩ := rl.get q
      refine ⟨v, ?_, h2⟩
      unfold L2.start
      rw [List.getElem?_append_left (by simp [lv, hi])]
      simp [h1]
    · exact o.elim
end
end QE

set_option Elab.async false
set_option linter.all false
set_option maxRecDepth 10000
set_option maxHeartbeats 1000000
/-! Dict comprehensions, the keys plain or tuples. -/
namespace QE
open PySem PySem.Spec PyProof.Rows L2
section
variable {X : Cx}
/-- a pair goes into a dict of either kind -/
theorem put_ok {pins : List (Addr × Obj)} {σ : L2.St} {H H' : Hp} {s : Shared} {E : Value → Shared → Prop} {D : Addr} {y z : V} {yv zv : Value} {Q : Unit → Shared → Prop} (hu : X.A.units + 1 < cLine) (I : Inv X pins σ H s) (g : DPut H D y z H') (ry : RelV y yv) (rz : RelV z zv)
    (k : ∀ s', Inv X pins σ H' s' → Q () s') : wpAny (model X.prog X.w) X.A (dictSet D yv zv) Q E s := by
  rcases g with ⟨kvs, key, e, ey, l, eH⟩ | ⟨kvs, key, b, e, ey, eb, l, eH⟩
  · subst ey eH
    exact d_dictSet I e l ry rz k
  · subst ey eH
    cases (show yv = Value.ref b from ry)
    obtain ⟨hz0, hd, qs, rel, dd⟩ := dt_of I.hok e
    have hz : qs.length ≤ sizeLine := by rw [← Paired.length rel]; exact hz0
    have hl : (putK kvs key z).length ≤ sizeLine := by have := length_putK kvs key z; omega
    refine wpAny_dictSet_heap (hsz := hz) (knd := tupleKind (mixKind X.prog X.w)) (Nat.lt_of_succ_lt hu) (key_of I.hok eb) dd fun h' dd' hs => k _ ?_
    obtain ⟨q, es, ep, hq, k2, k3, k4, _, k5⟩ := dd'
    refine d_write I (by rw [e]; exact True.intro) hs ⟨q, hq⟩ ⟨hl, hd, _, (rel.put key eb rz).keeps fun c ys ec => ?_, q, es, ep, hq, k2, k3, k4, k5⟩
    rw [upd_ne (L2.ne_of ec e (fun z => nomatch z))]
    exact ec
/-- {k: v for target in iter}: the dict at D from o0 on -/
def tDq (wi : TI) (g : TG) (tk tv : TE) (vs : List Nat) (o0 : HO) : TE := fun σ H Q => wi σ H fun J H1 => ∀ D, H1 D = none → ∃ W : Nat → Nat → Hp → Prop, (∃ m, W 0 m (upd H1 D o0)) ∧ ∀ i m H2, W i m H2 →
  (J.stop i H2 ∧ Q (.ref D) H2) ∨ (J.go i H2 ∧ ∃ Nx : Hp → Prop, (∀ H', Nx H' → ∃ m', m' < m ∧ W (i + 1) m' H') ∧ ∀ x H', J.yld i H2 x H' → g x (L2.wipe σ vs) H' fun σ2 H3 => L2.wipe σ2 vs = L2.wipe σ vs ∧
    tk σ2 H3 fun y H4 => tv σ2 H4 fun z H5 => ∃ H6, DPut H5 D y z H6 ∧ Nx H6)
/-- an empty dict of either kind -/
def Empty (o0 : HO) : Prop := o0 = .dK [] ∨ o0 = .dT []
theorem empty_ok {o0 : HO} (e : Empty o0) {P : Program} {w : World} {H : Hp} (h : Heap) (hb : sysModules < h.objs.size) : ObjOk P w H (h.push { cls := .type "dict", data := .dict #[] }) h.objs.size o0 := by
  rcases e with rfl | rfl
  · exact dk_empty h hb
  · exact dt_empty h hb
theorem dq_core {pins : List (Addr × Obj)} {s : Shared} {σ : L2.St} {H : Hp} {Q : VK} {kx vx tg iter : Expr} {scope : Scope} {own : List (Str × Nat)} {pos pos' : Pos} {wi : TI} {g : TG} {tk tv : TE} {o0 : HO} {use : Option (Value → Sem Unit)} {Qf : Value → Shared → Prop}
    (ho : Empty o0) (hu : X.A.units + 1 < cLine) (hc : X.calm = true) (hN : X.N.Nodup) (I : Inv X pins σ H s) (hi : PI X tg iter wi) (ok : BlkOk X.N X.env.scope scope own)
    (hg : ∀ (z : Shared) (G : Hp) (C : Addr) (cl : List (Str × Addr)) (fp : List Addr), PG (X.blk z G scope (compEnvC scope cl C X.env) fp) tg g)
    (hk : ∀ (z : Shared) (G : Hp) (C : Addr) (cl : List (Str × Addr)) (fp : List Addr), PE (X.blk z G scope (compEnvC scope cl C X.env) fp) kx tk)
    (he : ∀ (z : Shared) (G : Hp) (C : Addr) (cl : List (Str × Addr)) (fp : List Addr), PE (X.blk z G scope (compEnvC scope cl C X.env) fp) vx tv) (hs : ∀ x, foldedSetIterable iter X.env x = pure x)
    (h : tDq wi g tk tv (own.map (·.2)) o0 σ H Q)
    (post : ∀ D C z m G, Inv X pins σ G z → Q (.ref D) G → z.heap.Ns C m → FpOk X pins G C → compPost (model X.prog X.w) X.A X.xe use Qf (.ref D) C (.ok .next) z) :
    wpAny (model X.prog X.w) X.A (comprehension (.DictComp kx vx [⟨tg, iter, [], 0⟩] scope pos) scope X.env pos' newDict false (eval iter X.env) use) Qf X.xe s := by
  have cap : ∀ y ∈ scope.names, y.2 = .free → ∃ c, X.env.cells.lookup y.1 = some c := fun y hy e => (ok.free y hy e).elim (fun k => I.ok.has _ (.inl k)) fun k => I.ok.has _ (.inr k)
  refine wpAny_comprehension_free (use := use) rfl hs (closure_ok cap) ok.kind (fun y hy e => by rw [ok.uniq y hy, e])
    (thn (hi.run pins s σ H _ I h) fun xv z1 hx => thn hx fun itv z2 hit => ?_)
  obtain ⟨it, fp, tn, J, G2, e, J2, T, at0, fr2, q⟩ := hit
  subst e
  refine wpAny_newObj_type (newEnv_comp ?_)
  generalize hD : z2.heap.objs.size = D
  have Dn : G2 D = none := J2.hok.fresh (Nat.le_of_eq hD)
  obtain ⟨W, ⟨m0, w0⟩, turn⟩ := q D Dn
  generalize hz3 : ({ z2 with heap := z2.heap.push { cls := .type "dict", data := .dict #[] } } : Shared) = z3
  have J3 : Inv X pins σ (upd G2 D o0) z3 := by
    rw [← hz3]
    refine J2.laid (t' := z2.toks) (fun b o e => Heap.get?_push_of_some _ e) (Nat.le_of_eq hD) ?_
    rw [← hD]
    exact empty_ok ho z2.heap J2.big
  have hp3 : z3.heap = z2.heap.push { cls := .type "dict", data := .dict #[] } := by rw [← hz3]
  have fr3 : ∀ b ∈ fp, FpOk X pins (upd G2 D o0) b ∧ b < z3.heap.objs.size := fun b hb => by
    obtain ⟨ob, eb, _⟩ := T.obj _ _ at0 b hb
    have lt := Heap.lt_size eb
    refine ⟨⟨?_, (fr2 b hb).2⟩, by rw [hp3, Heap.size_push]; exact Nat.lt_succ_of_lt lt⟩
    rw [upd_ne (by rw [← hD]; exact Nat.ne_of_lt lt)]
    exact (fr2 b hb).1
  have at3 : tn 0 z3.heap := T.keep _ _ _ at0 fun b _ o e => by rw [hp3]; exact Heap.get?_push_of_some _ e
  have J4 := block_start J3 ok hN fr3
  generalize hcl : cellsFrom (z3.heap.objs.size + 1) scope.names (cloFrom X.env.cells scope.names []) = cls at J4 ⊢
  have pg := hg z3 (upd G2 D o0) z3.heap.objs.size cls fp
  have pk := hk z3 (upd G2 D o0) z3.heap.objs.size cls fp
  have pv := he z3 (upd G2 D o0) z3.heap.objs.size cls fp
  show codeAny _ _ (.compStart (.DictComp kx vx [⟨tg, iter, [], 0⟩] scope pos) 0 (.ref it) (.ref D) (compEnvC scope cls z3.heap.objs.size X.env)) _ { z3 with heap := pushCells (z3.heap.push { cls := .type "dict", data := .dict #[] }) scope.names }
  have nf3 : ∀ b ∈ fp, (upd G2 D o0) b = none := fun b hb => (fr3 b hb).1.1
  generalize hce : compEnvC scope cls z3.heap.objs.size X.env = ce at J4 pg pk pv ⊢
  have hloc : ce.locals = z3.heap.objs.size := by subst hce; rfl
  generalize hG3 : upd G2 D o0 = G3 at J3 J4 pg pk pv w0 nf3 fr3
  generalize hz4 : ({ z3 with heap := pushCells (z3.heap.push { cls := .type "dict", data := .dict #[] }) scope.names } : Shared) = z4 at J4 ⊢
  have at4 : tn 0 z4.heap := T.keep _ _ _ at3 fun b _ o e => by rw [← hz4]; exact pushCells_keeps _ _ _ _ (Heap.get?_push_of_some _ e)
  have own' : ∀ {σ' : L2.St} {H' : Hp} {s' : Shared}, Inv (X.blk z3 G3 scope ce fp) [] σ' H' s' → (∀ b ∈ fp, H' b = none) → ∀ b ∈ fp, FpOk (X.blk z3 G3 scope ce fp) [] H' b := fun {σ' H' s'} I' hn b hb =>
    ⟨hn b hb, (I'.ok.exf b hb).1, I'.ok.exfs b hb, .inl hb, fun x c e => (I'.ok.exf b hb).2 x c e, fun p hp => absurd (show p ∈ ([] : List (Addr × Obj)) ++ [] from hp) (by simp)⟩
  refine codeAny_compStart_dict ?_ (T.self X.A 0 _ _ _ at4 ?_)
  all_goals
    refine compLoop_anyD (fun n s' => ∃ i H', Inv (X.blk z3 G3 scope ce fp) [] (L2.wipe σ (own.map (·.2))) H' s' ∧ tn i s'.heap ∧ (∀ b ∈ fp, H' b = none) ∧ W i n H') ?_ m0 ⟨0, G3, J4, at4, nf3, w0⟩
    rintro n z5 ⟨i, G5, J5, at5, nf5, w5⟩
    rcases turn i n G5 w5 with ⟨stop, qq⟩ | ⟨go, Nx, hNx, step⟩
    · refine thnF (T.done (X.blk z3 G3 scope ce fp) rfl rfl rfl hc i [] z5 _ G5 (fun _ _ => False) J5 (own' J5 nf5) at5 stop) fun r z6 ⟨hr, J6⟩ => ?_
      subst hr
      have J7 : Inv X pins σ G5 z6 := J3.call' (ch := fp) J6.os J6.base J6.hok J6.bare fun b hb => ⟨(fr3 b hb).1.2.2.2.1, (fr3 b hb).1.2.1, (fr3 b hb).1.2.2.2.2.1, (fr3 b hb).1.2.2.2.2.2⟩
      have nC : G5 z3.heap.objs.size = none := hloc ▸ J6.free
      obtain ⟨m, hm, _⟩ := J6.loc
      have hm : z6.heap.Ns ce.locals m := hm
      rw [hloc] at hm
      exact post D z3.heap.objs.size z6 m G5 J7 qq hm (J3.fpOk (Nat.le_refl _) nC)
    · refine thnF (T.item (X.blk z3 G3 scope ce fp) rfl rfl rfl hc i [] z5 _ G5 (fun _ _ => False) J5 (own' J5 nf5) at5 go) fun r z6 ⟨u, hr, h6⟩ => ?_
      subst hr
      refine thnF h6 fun _ z7 ⟨x, G7, J7, rx, yx, at7, nf7⟩ => ?_
      have J7' := J7.pinned (own' J7 nf7) (T.obj _ _ at7)
      refine thnF (pg.run _ z7 _ G7 x u _ J7' rx (step x G7 yx)) fun _ z8 ⟨σ8, G8, J8, hw8, q8⟩ => ?_
      refine wpAny_tests_nil ?_
      simp only [if_true]
      have fin : ∀ {s' : Shared} {H' : Hp}, Inv (X.blk z3 G3 scope ce fp) ([] ++ pinsAt fp z7.heap) σ8 H' s' → Nx H' → ∃ m, m < n ∧ ∃ i H', Inv (X.blk z3 G3 scope ce fp) [] (L2.wipe σ (own.map (·.2))) H' s' ∧ tn i s'.heap ∧ (∀ b ∈ fp, H' b = none) ∧ W i m H' := fun {s' H'} I' nx => by
        obtain ⟨m', hm, w'⟩ := hNx H' nx
        have pin' : ∀ b ∈ fp, ∀ o, z7.heap.get? b = some o → s'.heap.get? b = some o ∧ H' b = none := fun b hb o e =>
          let p := I'.pin (b, o) (List.mem_append_right _ (List.mem_append_right _ (mem_pinsAt hb e)))
          ⟨p.1, p.2.1⟩
        have hl : (L2.wipe σ (own.map (·.2))).length = σ8.length := by rw [← hw8, wipe_length]
        refine ⟨m', hm, i + 1, H', (I'.unpinned (pins := [])).weak hl (fun j v e => (wipe_some (hw8 ▸ e)).1), T.keep _ _ _ at7 fun b hb o e => (pin' b hb o e).1, fun b hb => ?_, w'⟩
        obtain ⟨o, e, _⟩ := T.obj _ _ at7 b hb
        exact (pin' b hb o e).2
      refine thnF (pk.run _ z8 σ8 G8 _ J8 q8) fun kv z9 ⟨yk, G9, J9, r9, q9⟩ => ?_
      refine thnF (pv.run _ z9 σ8 G9 _ J9 q9) fun vv z10 ⟨yv, G10, J10, r10, G11, dp, nx⟩ => ?_
      exact put_ok (X := X.blk z3 G3 scope ce fp) hu J10 dp r9 r10 fun z11 J11 => fin J11 nx
theorem pe_dq {kx vx tg iter : Expr} {scope : Scope} {own : List (Str × Nat)} {pos : Pos} {wi : TI} {g : TG} {tk tv : TE} {o0 : HO} (ho : Empty o0) (hu : X.A.units + 1 < cLine) (hc : X.calm = true) (hN : X.N.Nodup) (hi : PI X tg iter wi) (ok : BlkOk X.N X.env.scope scope own)
    (hg : ∀ (z : Shared) (G : Hp) (C : Addr) (cl : List (Str × Addr)) (fp : List Addr), PG (X.blk z G scope (compEnvC scope cl C X.env) fp) tg g)
    (hk : ∀ (z : Shared) (G : Hp) (C : Addr) (cl : List (Str × Addr)) (fp : List Addr), PE (X.blk z G scope (compEnvC scope cl C X.env) fp) kx tk)
    (he : ∀ (z : Shared) (G : Hp) (C : Addr) (cl : List (Str × Addr)) (fp : List Addr), PE (X.blk z G scope (compEnvC scope cl C X.env) fp) vx tv) (hs : ∀ x, foldedSetIterable iter X.env x = pure x) :
    PE X (.DictComp kx vx [⟨tg, iter, [], 0⟩] scope pos) (tDq wi g tk tv (own.map (·.2)) o0) := by
  refine ⟨fun pins s σ H Q I h => ?_⟩
  rw [arm_eval_DictComp]
  refine dq_core ho hu hc hN I hi ok hg hk he hs h fun D C z m G I' q hm f => ⟨m, hm, fun h'' sb => ?_⟩
  obtain ⟨f0, f1, f2, f3, f4, f5⟩ := f
  exact ⟨.ref D, G, I'.turned (t' := z.toks) (fun b o hb e => (sb.2 b hb).trans e) f0 f1 f3 f4 f5, rfl, q⟩
/-- name = {..} on one line, the name a local -/
theorem ps_setDq {i : Nat} {y : Str} {py : Pos} {kx vx tg iter : Expr} {scope : Scope} {own : List (Str × Nat)} {pos spos : Pos} {wi : TI} {g : TG} {tk tv : TE} {o0 : HO} (ho : Empty o0) (hu : X.A.units + 1 < cLine) (hc : X.calm = true) (hN : X.N.Nodup)
    (hy : X.N[i]? = some y) (hyl : X.env.scope.names.lookup y = some .local) (hsw : swapsWith (.DictComp kx vx [⟨tg, iter, [], 0⟩] scope pos) (some (.Name y py)) spos.line X.env = pure true) (hi : PI X tg iter wi) (ok : BlkOk X.N X.env.scope scope own)
    (hg : ∀ (z : Shared) (G : Hp) (C : Addr) (cl : List (Str × Addr)) (fp : List Addr), PG (X.blk z G scope (compEnvC scope cl C X.env) fp) tg g)
    (hk : ∀ (z : Shared) (G : Hp) (C : Addr) (cl : List (Str × Addr)) (fp : List Addr), PE (X.blk z G scope (compEnvC scope cl C X.env) fp) kx tk)
    (he : ∀ (z : Shared) (G : Hp) (C : Addr) (cl : List (Str × Addr)) (fp : List Addr), PE (X.blk z G scope (compEnvC scope cl C X.env) fp) vx tv) (hs : ∀ x, foldedSetIterable iter X.env x = pure x) :
    PS X (.Assign [.Name y py] (.DictComp kx vx [⟨tg, iter, [], 0⟩] scope pos) spos) (tAsg (tDq wi g tk tv (own.map (·.2)) o0) (gName i)) := by
  refine ⟨fun pins s σ H D I h => ?_⟩
  rw [exec_Assign_Name_used _ _ _ _ hsw]
  refine wpAny_bind (wpAny_standAt (wpAny_bind ?_))
  show wpAny _ X.A (do let _ ← comprehension (.DictComp kx vx [⟨tg, iter, [], 0⟩] scope pos) scope X.env (firstIterPos [⟨tg, iter, [], 0⟩] pos) newDict false (eval iter X.env) (some (assign (.Name y py) X.env))) _ _ s
  have h : tDq wi g tk tv (own.map (·.2)) o0 σ H (fun x H1 => gName i x σ H1 D.nx) := h
  refine wpAny_bind (thn (dq_core (Qf := fun _ s' => SP X pins D .next s') ho hu hc hN I hi ok hg hk he hs h fun L C z m G I' q hm f => ?_) fun _ s' hq => wpAny_pure (wpAny_pure hq))
  show wpAny _ _ (assign (.Name y py) X.env (.ref L)) _ _ _
  refine wpAny_assign_Name (store_ok2 (v := V.ref L) I' hN hy (.inl hyl) rfl (fun s2 I2 ⟨a, sb, ha⟩ => ?_) (.inr hyl))
  obtain ⟨f0, f1, f2, f3, f4, f5⟩ := f
  have apart : C ≠ a := by
    rcases ha with z | z
    · rw [z]; exact f1
    · exact fun e => f4 y a z e.symm
  exact ⟨m, hm.sameBut sb apart, fun h3 sb3 => ⟨_, G, I2.turned (t' := s2.toks) (fun b o hb e => (sb3.2 b hb).trans e) f0 f1 f3 f4 f5, q⟩⟩
theorem swD_true {kx vx : Expr} {gs : List Comprehension} {scope : Scope} {pos py : Pos} {y : Str} {l : Nat} {env : PySem.Env} (hk : env.scope.kind = .function) (hy : env.scope.names.lookup y = some .local) (hl : (py.line == pos.line) = true)
    (ha : (scope.names.any fun (n, k) => n == y && (k == .local || k == .cell)) = false) : swapsWith (.DictComp kx vx gs scope pos) (some (.Name y py)) l env = pure true := by
  have ky : env.kindOf y = some .local := hy
  have hb : env.blockKind = .function := by unfold Env.blockKind; rw [hk]; rfl
  unfold swapsWith
  simp only [hb, ky, ha, Expr.pos, hl]
  rfl
/-- what a dict of kind t holds -/
def DRep (K : PySem.W.Frag) (hid ρ : List Addr) (H : Hp) (t : Bool) (kvs : List (Val × Val)) (u : HO) : Prop := match t with
  | true => ∃ ws, u = .dT ws ∧ RepT K hid ρ H kvs ws
  | false => ∃ ws, u = .dK ws ∧ RepK K hid ρ H kvs ws
def emptyOf (t : Bool) : HO := if t then .dT [] else .dK []
theorem DRep.to {K : PySem.W.Frag} {hid ρ hid' ρ' : List Addr} {H H' : Hp} (m : RepTo hid ρ H hid' ρ' H') {t : Bool} {kvs : List (Val × Val)} {u : HO} (h : DRep K hid ρ H t kvs u) : DRep K hid' ρ' H' t kvs u := by
  cases t with
  | true => obtain ⟨ws, e, r⟩ := h; exact ⟨ws, e, RepT.to m _ _ r⟩
  | false => obtain ⟨ws, e, r⟩ := h; exact ⟨ws, e, RepK.to m _ _ r⟩
theorem DRep.mono {K : PySem.W.Frag} {hid ρ ρ' : List Addr} {H H' : Hp} (m : Ext ρ H ρ' H') {t : Bool} {kvs : List (Val × Val)} {u : HO} (h : DRep K hid ρ H t kvs u) : DRep K hid ρ' H' t kvs u := by
  cases t with
  | true => obtain ⟨ws, e, r⟩ := h; exact ⟨ws, e, RepT.mono m _ _ r⟩
  | false => obtain ⟨ws, e, r⟩ := h; exact ⟨ws, e, RepK.mono m _ _ r⟩
theorem DRep.kind {K : PySem.W.Frag} {hid ρ : List Addr} {H : Hp} {t : Bool} {kvs : List (Val × Val)} {u : HO} (h : DRep K hid ρ H t kvs u) : NT u ∧ ∀ φ, u ≠ .ext φ := by
  cases t <;> (obtain ⟨ws, e, _⟩ := h; subst e; exact ⟨fun _ z => (by cases z), fun _ z => (by cases z)⟩)
theorem DRep.nofrz {K : PySem.W.Frag} {hid ρ : List Addr} {H : Hp} {t : Bool} {kvs : List (Val × Val)} {u : HO} (h : DRep K hid ρ H t kvs u) : ∀ o w, u ≠ .frz o w := by
  intro o w z
  cases t with
  | true => obtain ⟨ws, e, r⟩ := h; rw [z] at e; cases e
  | false => obtain ⟨ws, e, r⟩ := h; rw [z] at e; cases e
theorem DRep.put {K : PySem.W.Frag} {hid ρ : List Addr} {H : Hp} {D : Addr} {t : Bool} {kvs : List (Val × Val)} {u : HO} {k x : Val} {y v : V} (h : DRep K (D :: hid) ρ H t kvs u) (hD : H D = some u) (hl : kvs.length < lim) (hk : k.isKey t = true) (rk : Rep K (D :: hid) ρ H k y)
    (rx : x.st = true ∧ Rep K (D :: hid) ρ H x v) : ∃ u', DPut H D y v (upd H D u') ∧ DRep K (D :: hid) ρ (upd H D u') t (dPut k x kvs) u' ∧ ∀ xs, u ≠ .tup xs := by
  cases t with
  | true =>
    obtain ⟨ws, e, r⟩ := h
    subst e
    obtain ⟨ks, e2, h3⟩ := isKey_true hk
    subst e2
    obtain ⟨c, us, e3, h5, r5⟩ := rk.tup_
    have h6 := flatKeys_rep h3 r5
    subst e3 h6
    refine ⟨.dT (putK ws (ks.map keyOf) v), DPut.t hD h5 (by rw [r.length, ← lim_eq]; exact hl), ⟨_, rfl, ?_⟩, fun _ z => nomatch z⟩
    exact RepT.to (to_over hD (fun _ z => nomatch z)) _ _ (RepT.put hk rx r)
  | false =>
    obtain ⟨ws, e, r⟩ := h
    subst e
    have h3 : k.flatKey = true := by simpa [Val.isKey] using hk
    have h6 := flatKey_rep h3 rk
    subst h6
    refine ⟨.dK (putK ws (keyOf k) v), DPut.k hD (by rw [r.length, ← lim_eq]; exact hl), ⟨_, rfl, ?_⟩, fun _ z => nomatch z⟩
    exact RepK.to (to_over hD (fun _ z => nomatch z)) _ _ (RepK.put h3 rx r)
theorem dMap_len (k v : Val) : ∀ kvs : List (Val × Val), (dMap k v kvs).length = kvs.length
  | [] => rfl
  | (q, u) :: r => by simp only [dMap, List.length_cons, dMap_len k v r]
theorem dPut_len (k v : Val) (kvs : List (Val × Val)) : (dPut k v kvs).length ≤ kvs.length + 1 := by
  unfold dPut
  split
  · rw [dMap_len]; omega
  · simp
theorem dc_read {c : Ctx} {own : List Nat} {tg : T} {src : Src} {t : Bool} {ek ev : E} (hown : ∀ i ∈ tgN tg, i ∈ own) {σ : L2.St} {H : Hp} {Q : VK} (h : tE X.K c (.dcomp own tg src t ek ev) σ H Q) :
    tDq (tI X.K c src) (tG X.K tg) (tE X.K c ek) (tE X.K c ev) own (emptyOf t) σ H Q := by
  obtain ⟨hid, ρ, env, S, hE, hs, h⟩ := h
  simp only [evalE] at h
  obtain ⟨xs, S1, q, hk⟩ := h.bind
  refine ⟨hid, ρ, env, S, hE, hs, ?_⟩
  rw [q]
  intro ρ1 H1 e1 s1 J w D hD
  obtain ⟨ys, S', q2, hk2⟩ := (hk ρ1 H1 e1).bind
  have q2 := calm_ok q2
  have hlim : xs.length ≤ lim := by
    have := hk2 ρ1 H1 (Ext.refl _ _)
    split at this
    · assumption
    · exact this.elim
  have wk := (w.hide0 hD).walk
  let Pv : Nat → Hp → Prop := fun i H2 => ∃ ρ2 S2 acc u, H2 D = some u ∧ DRep X.K (D :: hid) ρ2 H2 t acc u ∧ SOk X.K (D :: hid) ρ2 H2 S2 ∧ Ext ρ1 H1 ρ2 H2 ∧
    dcompLoop tg t (evalE c ek) (evalE c ev) (QE.wipe env own) (xs.drop i) acc S2 = .ok ys S' ∧ acc.length ≤ i
  have step : ∀ i v H2 H3, i < xs.length → Pv i H2 → YR X.K (D :: hid) ρ1 H1 xs i H2 v H3 → tG X.K tg v (L2.wipe σ own) H3 fun σ2 H4 => L2.wipe σ2 own = L2.wipe σ own ∧
      tE X.K c ek σ2 H4 fun y H5 => tE X.K c ev σ2 H5 fun z H6 => ∃ H7, DPut H6 D y z H7 ∧ Pv (i + 1) H7 := by
    intro i v H2 H3 hi p y
    obtain ⟨ρ2, S2, acc, u, hD2, racc, hs2, e2, hcl, hal⟩ := p
    obtain ⟨x, hx, e3, hs3, st, rx⟩ := y ρ2 S2 e2 hs2
    have hd : xs.drop i = x :: xs.drop (i + 1) := by
      rw [List.drop_eq_getElem_cons hi]
      rw [List.getElem?_eq_getElem hi] at hx
      cases hx
      rfl
    rw [hd, dcompLoop] at hcl
    cases hb : bindT tg x (QE.wipe env own) with
    | none => rw [hb] at hcl; cases hcl
    | some env' =>
      rw [hb] at hcl
      obtain ⟨k, S3, qk, hcl⟩ := bind_ok hcl
      obtain ⟨z, S4, qe, hcl⟩ := bind_ok hcl
      split at hcl
      · rename_i hkey
        have dn : D ∉ ρ2 := fun z => hs2.apart D z (by simp)
        have hE3 : ERep X.K (D :: hid) ρ2 H3 (QE.wipe env own) (L2.wipe σ own) := ((((hE.mono e1).hide0 hD).mono e2).mono e3).wipe own
        refine ⟨D :: hid, ρ2, QE.wipe env own, S2, x, env', hE3, hs3, rx, hb, fun σ' hE' hw => ⟨by rw [hw own hown, wipe_wipe], D :: hid, ρ2, env', S2, hE', hs3, ?_⟩⟩
        rw [qk]
        intro ρ5 H5 e5 s5 kv rk frk
        have dn5 : D ∉ ρ5 := fun z => s5.apart D z (by simp)
        refine ⟨D :: hid, ρ5, env', S3, hE'.mono e5, s5, ?_⟩
        rw [qe]
        intro ρ6 H6 e6 s6 zv rz frz
        have hD6 : H6 D = some u := e6.keep0 _ _ (e5.keep0 _ _ (e3.keep0 _ _ hD2 dn racc.kind.1) dn racc.kind.1) dn5 racc.kind.1
        obtain ⟨u', dp, dr, nt⟩ := (DRep.mono ((e3.trans e5).trans e6) racc).put hD6 (by omega) hkey (Rep.mono e6 _ _ rk) ⟨st_settle z, rz.settle⟩
        have := dPut_len k z.settle acc
        exact ⟨_, dp, ρ6, S4, _, u', upd_same, dr, s6.over hD6 nt racc.kind.2 dr.kind.1 racc.nofrz, (((e2.trans e3).trans e5).trans e6).over hD, hcl, by omega⟩
      · cases hcl
  have start : Pv 0 (upd H1 D (emptyOf t)) := ⟨ρ1, S1, [], emptyOf t, upd_same, by cases t <;> exact ⟨[], rfl, by simp [RepT, RepK]⟩, s1.hide hD (by cases t <;> (intro _ z; cases z)), Ext.new hD, by simpa using q2, Nat.le_refl _⟩
  have fin : ∀ H2, Pv xs.length H2 → Q (.ref D) H2 := by
    intro H2 p
    obtain ⟨ρ2, S2, acc, u, hD2, racc, hs2, e2, hcl, hal⟩ := p
    rw [List.drop_length, dcompLoop] at hcl
    cases hcl
    have h9 := hk2 ρ2 H2 e2
    rw [if_pos hlim] at h9
    have dn : D ∉ ρ2 := fun z => hs2.apart D z (by simp)
    have dh : D ∉ hid := s1.new2 hD
    cases t with
    | true =>
      obtain ⟨ws, eu, r⟩ := racc
      subst eu
      refine h9.pure hs2.seen (.ref D) ?_ ⟨D, rfl, e1.free (.of hD), hs2.take dh ⟨ws, hD2, r⟩⟩
      simp only [Rep]
      exact ⟨D, ws, rfl, hD2, dn, dh, RepT.seen _ _ r⟩
    | false =>
      obtain ⟨ws, eu, r⟩ := racc
      subst eu
      refine h9.pure hs2.seen (.ref D) ?_ ⟨D, rfl, e1.free (.of hD), hs2.take dh ⟨ws, hD2, r⟩⟩
      simp only [Rep]
      exact ⟨D, ws, rfl, hD2, dn, dh, RepK.seen _ _ r⟩
  refine ⟨fun i m H => m = xs.length - i ∧ i ≤ xs.length ∧ Pv i H, ⟨_, rfl, Nat.zero_le _, start⟩, ?_⟩
  rintro i m H2 ⟨rfl, hi, p⟩
  have q0 : ∃ ρ2, Ext ρ1 H1 ρ2 H2 := by obtain ⟨ρ2, _, _, _, _, _, _, e, _⟩ := p; exact ⟨ρ2, e⟩
  by_cases hlt : i < xs.length
  · exact .inr ⟨wk.goes i H2 hlt q0, Pv (i + 1), fun H' p' => ⟨xs.length - (i + 1), by omega, rfl, hlt, p'⟩, fun x H' y => step i x H2 H' hlt p (wk.yields i H2 x H' hlt q0 y)⟩
  · have e : i = xs.length := by omega
    subst e
    exact .inl ⟨wk.stops H2 q0, fin H2 p⟩
theorem s_dcomp {c : Ctx} {pos : Pos} {kx vx tg iter : Expr} {scope : Scope} {own : List (Str × Nat)} {g : T} {src : Src} {t : Bool} {ek ev : E} (hu : X.A.units + 65 < cLine) (hc : X.calm = true) (hN : X.N.Nodup) (hi : PI X tg iter (tI X.K c src)) (ok : BlkOk X.N X.env.scope scope own)
    (hg : ∀ (z : Shared) (G : Hp) (C : Addr) (cl : List (Str × Addr)) (fp : List Addr), PG (X.blk z G scope (compEnvC scope cl C X.env) fp) tg (tG X.K g))
    (hk : ∀ (z : Shared) (G : Hp) (C : Addr) (cl : List (Str × Addr)) (fp : List Addr), PE (X.blk z G scope (compEnvC scope cl C X.env) fp) kx (tE X.K c ek))
    (he : ∀ (z : Shared) (G : Hp) (C : Addr) (cl : List (Str × Addr)) (fp : List Addr), PE (X.blk z G scope (compEnvC scope cl C X.env) fp) vx (tE X.K c ev)) (hf : noSetE iter = true) (hown : ∀ i ∈ tgN g, i ∈ own.map (·.2)) :
    PE X (.DictComp kx vx [⟨tg, iter, [], 0⟩] scope pos) (tE X.K c (.dcomp (own.map (·.2)) g src t ek ev)) :=
  PE.imp (pe_dq (o0 := emptyOf t) (by cases t; exact .inl rfl; exact .inr rfl) (by omega) hc hN hi ok hg hk he (no_fold hf X.env)) fun σ H Q h => dc_read hown h
theorem s_setDcomp {c : Ctx} {W : L2.WX} {i : Nat} {y : Str} {py : Pos} {pos spos : Pos} {kx vx tg iter : Expr} {scope : Scope} {own : List (Str × Nat)} {g : T} {src : Src} {t : Bool} {ek ev e' : E} (rd : ∀ σ H Q, tE X.K c e' σ H Q → tE X.K c (.dcomp (own.map (·.2)) g src t ek ev) σ H Q)
    (hu : X.A.units + 65 < cLine) (hc : X.calm = true) (hN : X.N.Nodup) (hy : X.N[i]? = some y) (hyl : X.env.scope.names.lookup y = some .local) (hsw : swapsWith (.DictComp kx vx [⟨tg, iter, [], 0⟩] scope pos) (some (.Name y py)) spos.line X.env = pure true)
    (hi : PI X tg iter (tI X.K c src)) (ok : BlkOk X.N X.env.scope scope own)
    (hg : ∀ (z : Shared) (G : Hp) (C : Addr) (cl : List (Str × Addr)) (fp : List Addr), PG (X.blk z G scope (compEnvC scope cl C X.env) fp) tg (tG X.K g))
    (hk : ∀ (z : Shared) (G : Hp) (C : Addr) (cl : List (Str × Addr)) (fp : List Addr), PE (X.blk z G scope (compEnvC scope cl C X.env) fp) kx (tE X.K c ek))
    (he : ∀ (z : Shared) (G : Hp) (C : Addr) (cl : List (Str × Addr)) (fp : List Addr), PE (X.blk z G scope (compEnvC scope cl C X.env) fp) vx (tE X.K c ev)) (hf : noSetE iter = true) (hown : ∀ i ∈ tgN g, i ∈ own.map (·.2)) :
    PS X (.Assign [.Name y py] (.DictComp kx vx [⟨tg, iter, [], 0⟩] scope pos) spos) (tS X.K c W (.asg (.name i) e')) :=
  PS.imp (ps_setDq (o0 := emptyOf t) (by cases t; exact .inl rfl; exact .inr rfl) (by omega) hc hN hy hyl hsw hi ok hg hk he (no_fold hf X.env)) fun D σ H h => dc_read hown (rd _ _ _ (set_read h))
end
end QE

set_option Elab.async false
set_option linter.all false
set_option maxRecDepth 10000
set_option maxHeartbeats 1000000
/-! The text beside the evaluator's text: expressions. -/
namespace QE
open PySem PySem.Spec PyProof.Rows L2 LamX L2H
/-- the names of a text: its defs, its constants, the built-ins it uses -/
structure Cf where
  fns : List Str
  cons : List Str
  bis : List Str
  /-- the classes of exceptions that are raised -/
  kls : List Str := []
  /-- the classes that a caught exception is asked for -/
  ecl : List Str := []
  /-- the defs that catch -/
  grds : List Nat := []
  /-- where the def's table of code objects lies, the name of its lambdas -/
  tab : Option (Nat × List Nat) := none
def kd (sc : Scope) (x : Str) : Option NameKind := sc.names.lookup x
def isL (sc : Scope) (x : Str) : Bool := decide (kd sc x = some .local)
def isLoc (sc : Scope) (x : Str) : Bool := decide (kd sc x = some .local) || decide (kd sc x = some .cell)
def isVis (sc : Scope) (x : Str) : Bool := decide (kd sc x = some .local) || (decide (kd sc x = some .cell) || decide (kd sc x = some .free))
def isGl (sc : Scope) (x : Str) : Bool := decide (kd sc x = some .globalImplicit)
/-- not one of the names that Python keeps for itself -/
def plainN (x : Str) : Bool := !(x == ("__debug__" : Str)) && (!(x == ("__classdict__" : Str)) && !decide (x = ("__name__" : Str)))
/-- a built-in's name -/
def isBi (cf : Cf) (sc : Scope) (x : Str) : Bool := isGl sc x && (decide (x ∈ cf.bis) && plainN x)

/-! ### shapes -/
def opIs : BOp → Operator → Bool
  | .add, .Add => true
  | .sub, .Sub => true
  | .mul, .Mult => true
  | .fdiv, .FloorDiv => true
  | .mod, .Mod => true
  | .pow, .Pow => true
  | _, _ => false
theorem opIs_ok {a : BOp} {o : Operator} (h : opIs a o = true) : o = opOf a := by cases a <;> cases o <;> first | rfl | (cases h; done)
def coIs : COp → CmpOp → Bool
  | .eq, .Eq => true
  | .ne, .NotEq => true
  | .lt, .Lt => true
  | .le, .LtE => true
  | .gt, .Gt => true
  | .ge, .GtE => true
  | .in_, .In => true
  | .nin, .NotIn => true
  | .is_, .Is => true
  | .isn, .IsNot => true
  | _, _ => false
theorem coIs_ok {a : COp} {o : CmpOp} (h : coIs a o = true) : o = cmpOf a := by cases a <;> cases o <;> first | rfl | (cases h; done)
/-- the names of a comprehension's block, with their places -/
def ownOf (N : List Str) (scope : Scope) : List (Str × Nat) := scope.names.filterMap fun y => if decide (y.2 = .local) || decide (y.2 = .cell) then (match N.findIdx? (fun z => decide (z = y.1)) with
  | some i => some (y.1, i)
  | none => none) else none
def blkB (N : List Str) (sc scope : Scope) : Bool :=
  decide (scope.kind = .function) && (scope.names.all fun y => decide (scope.names.lookup y.1 = some y.2)) && ((ownOf N scope).all fun p => decide (N[p.2]? = some p.1)) &&
  (scope.names.all fun y => !decide (y.2 = .free) || (decide (kd sc y.1 = some .cell) || decide (kd sc y.1 = some .free))) &&
  (scope.names.all fun y => !(decide (y.2 = .local) || decide (y.2 = .cell)) || (decide (y.1 ∈ (ownOf N scope).map (·.1)) || decide (y.1 ∉ N)))
theorem blk_ok {N : List Str} {sc scope : Scope} (h : blkB N sc scope = true) : BlkOk N sc scope (ownOf N scope) := by
  simp only [blkB, Bool.and_eq_true, List.all_eq_true, decide_eq_true_eq] at h
  obtain ⟨⟨⟨⟨h1, h2⟩, h3⟩, h4⟩, h5⟩ := h
  refine ⟨h1, h2, h3, fun y hy e => ?_, fun y hy e => ?_⟩
  · have := h4 y hy
    simp only [e, decide_true, Bool.not_true, Bool.false_or, Bool.or_eq_true, decide_eq_true_eq] at this
    exact this
  · have := h5 y hy
    rcases e with e | e <;> simpa [e] using this
/-! ### targets, sources, expressions -/
mutual
def mG (N : List Str) (sc : Scope) (fb : Str → Bool) : T → Expr → Bool
  | .name i, .Name x _ => decide (N[i]? = some x) && (isLoc sc x && (fb x || isL sc x))
  | .tup ts, .Tuple es _ _ => es.all plainG && (decide (es.length = ts.length) && mGs N sc fb ts es)
  | _, _ => false
def mGs (N : List Str) (sc : Scope) (fb : Str → Bool) : List T → List Expr → Bool
  | [], [] => true
  | t :: ts, e :: es => mG N sc fb t e && mGs N sc fb ts es
  | _, _ => false
end
def tupE : Expr → Bool
  | .Tuple _ _ _ => true
  | _ => false
mutual
/-- may stand as a test -/
def tst : E → Bool
  | .var _ => true
  | .lit _ => true
  | .con _ => true
  | .cmp _ _ _ => true
  | .chain _ _ _ _ _ => true
  | .and es => tstL es
  | .or es => tstL es
  | .not e => tst e
  | .idx _ _ => true
  | .slice _ _ _ => true
  | .call _ _ => true
  | .bi _ _ => true
  | .isi _ _ => true
  | .meth _ _ _ => true
  | .append _ _ => true
  | _ => false
def tstL : List E → Bool
  | [] => true
  | e :: es => tst e && tstL es
end
/-- no parameters -/
def noPar : Arguments → Bool
  | ⟨[], [], none, [], [], none, []⟩ => true
  | _ => false
mutual
def mE (cf : Cf) (N : List Str) : E → Scope → Expr → Bool
  | .var i, sc, .Name x _ => decide (N[i]? = some x) && (isVis sc x && plainN x)
  | .lit v, _, .Constant k _ _ => constOk v k
  | .con i, sc, .Name x _ => decide (cf.cons[i]? = some x) && (isGl sc x && plainN x)
  | .bin op a b, sc, .BinOp xa o xb _ => opIs op o && (mE cf N a sc xa && mE cf N b sc xb)
  | .neg a, sc, .UnaryOp .USub xa _ => mE cf N a sc xa
  | .cmp op a b, sc, .Compare xa [o] [xb] _ => coIs op o && (noSetE xb && (mE cf N a sc xa && mE cf N b sc xb))
  | .chain o1 o2 a b d, sc, .Compare xa [p1, p2] [xb, xd] _ => (coIs o1 p1 && coIs o2 p2) && (noSetE xd && (mE cf N a sc xa && (mE cf N b sc xb && mE cf N d sc xd)))
  | .and es, sc, .BoolOp .And xs _ => !xs.isEmpty && mEs cf N es sc xs
  | .or es, sc, .BoolOp .Or xs _ => !xs.isEmpty && mEs cf N es sc xs
  | .not a, sc, .UnaryOp .Not xa _ => mE cf N a sc xa
  | .ite t a b, sc, .IfExp xt xa xb _ => tst t && (mE cf N t sc xt && (mE cf N a sc xa && mE cf N b sc xb))
  | .tup es, sc, .Tuple xs _ _ => xs.all plainE && mEs cf N es sc xs
  | .list es, sc, .List xs _ => xs.all plainE && mEs cf N es sc xs
  | .dnew _, _, .Dict [] [] _ => true
  | .idx a i, sc, .Subscript xa xi _ => noSlice xi && (mE cf N a sc xa && mE cf N i sc xi)
  | .slice a lo hi, sc, .Subscript xa (.Slice xl xh none _) _ => mE cf N a sc xa && (mO cf N lo sc xl && mO cf N hi sc xh)
  | .call f es, sc, .Call (.Name x _) xs [] _ => decide (cf.fns[f]? = some x) && (isGl sc x && (plainN x && (xs.all plainE && mEs cf N es sc xs)))
  | .bi b es, sc, .Call (.Name x _) xs [] _ => decide (x = PySem.Str.ofString (biName b)) && (isBi cf sc x && (!xs.isEmpty && (xs.all plainE && mEs cf N es sc xs)))
  | .isi t a, sc, .Call (.Name x _) [xa, .Name y _] [] _ => decide (x = PySem.Str.ofString "isinstance") && (decide (y = PySem.Str.ofString (tyStr t)) && (isBi cf sc x && (isBi cf sc y && (plainE xa && mE cf N a sc xa))))
  | .meth m o a, sc, .Call (.Attribute xo nm ap) [xa] [] cp => decide (nm = PySem.Str.ofString (meName m)) && (plainE xa && (plainO xo && ((ap.endLine == cp.line) && (mE cf N o sc xo && mE cf N a sc xa))))
  | .append o a, sc, .Call (.Attribute xo nm ap) [xa] [] cp => decide (nm = PySem.Str.ofString "append") && (plainE xa && (plainO xo && ((ap.endLine == cp.line) && (mE cf N o sc xo && mE cf N a sc xa))))
  | .comp own tg src ifs elt, sc, .ListComp xe [⟨xt, xi, xifs, isa⟩] scope _ => decide (isa = 0) && (decide (own = (ownOf N scope).map (·.2)) && (blkB N sc scope && (noSetE xi && ((tgN tg).all (fun i => decide (i ∈ own)) &&
      (mSrc cf N src sc xt xi && (mG N (relS scope sc) (fun x => scope.names.lookup x == some .cell) tg xt && (mIfs cf N ifs (relS scope sc) xifs && mE cf N elt (relS scope sc) xe)))))))
  | .dcomp own tg src _ k v, sc, .DictComp xk xv [⟨xt, xi, [], isa⟩] scope _ => decide (isa = 0) && (decide (own = (ownOf N scope).map (·.2)) && (blkB N sc scope && (noSetE xi && ((tgN tg).all (fun i => decide (i ∈ own)) &&
      (mSrc cf N src sc xt xi && (mG N (relS scope sc) (fun x => scope.names.lookup x == some .cell) tg xt && (mE cf N k (relS scope sc) xk && mE cf N v (relS scope sc) xv)))))))
  | .d1 false k v, sc, .Dict [some xk] [xv] _ => mE cf N k sc xk && mE cf N v sc xv
  | .get d k v, sc, .Call (.Attribute xo nm ap) [xk, xv] [] cp => decide (nm = PySem.Str.ofString "get") && (plainE xk && (plainE xv && (plainO xo && ((ap.endLine == cp.line) && (mE cf N d sc xo && (mE cf N k sc xk && mE cf N v sc xv))))))
  | .trng a b, sc, .Call (.Name x _) [.Call (.Name y _) [xa, xb] [] _] [] _ => decide (x = PySem.Str.ofString "tuple") && (decide (y = PySem.Str.ofString "range") && (isBi cf sc x && (isBi cf sc y && (plainE xa && (plainE xb && (mE cf N a sc xa && mE cf N b sc xb))))))
  | .fn f, sc, .Name x _ => decide (cf.fns[f]? = some x) && (isGl sc x && plainN x)
  | .callV i es, sc, .Call (.Name x _) xs [] _ => decide (N[i]? = some x) && (isVis sc x && (plainN x && (!xs.isEmpty && (xs.all plainE && mEs cf N es sc xs))))
  | .guard g _ p q eb, sc, .Call (.Name x _) [.Lambda params body scope _] [] _ => decide (cf.tab = some (p, q)) && (decide (g ∈ cf.grds) && (decide (cf.fns[g]? = some x) && (isGl sc x && (plainN x && (noPar params && (lamSB sc scope && mX { cf with tab := none } N eb scope body))))))
  | .rev a, sc, .Subscript xa (.Slice none none (some (.UnaryOp .USub (.Constant (.int i) _ _) _)) _) _ => decide (i = 1) && mE cf N a sc xa
  | .compC own tg e ifs elt, sc, .ListComp xe [⟨xt, xi, xifs, isa⟩] scope _ => decide (isa = 0) && (decide (own = (ownOf N scope).map (·.2)) && (blkB N sc scope && (noSetE xi && ((tgN tg).all (fun i => decide (i ∈ own)) &&
      (mE cf N e sc xi && (mG N (relS scope sc) (fun x => scope.names.lookup x == some .cell) tg xt && (mIfs cf N ifs (relS scope sc) xifs && mE cf N elt (relS scope sc) xe)))))))
  | .cell e, sc, x => mE cf N e sc x
  | _, _, _ => false
/-- a call that may raise -/
def mX (cf : Cf) (N : List Str) : E → Scope → Expr → Bool
  | .call f es, sc, .Call (.Name x _) xs [] _ => decide (cf.fns[f]? = some x) && (isGl sc x && (plainN x && (!xs.isEmpty && (xs.all plainE && mEs cf N es sc xs))))
  | .callV i es, sc, .Call (.Name x _) xs [] _ => decide (N[i]? = some x) && (isVis sc x && (plainN x && (!xs.isEmpty && (xs.all plainE && mEs cf N es sc xs))))
  | _, _, _ => false
def mEs (cf : Cf) (N : List Str) : List E → Scope → List Expr → Bool
  | [], _, [] => true
  | e :: es, sc, x :: xs => mE cf N e sc x && mEs cf N es sc xs
  | _, _, _ => false
def mO (cf : Cf) (N : List Str) : Option E → Scope → Option Expr → Bool
  | none, _, none => true
  | some e, sc, some x => mE cf N e sc x
  | _, _, _ => false
def mIfs (cf : Cf) (N : List Str) : List E → Scope → List Expr → Bool
  | [], _, [] => true
  | [e], sc, [x] => tst e && mE cf N e sc x
  | _, _, _ => false
def mSrc (cf : Cf) (N : List Str) : Src → Scope → Expr → Expr → Bool
  | .it e, sc, _, x => mE cf N e sc x
  | .rng1 a, sc, _, .Call (.Name x _) [xa] [] _ => decide (x = PySem.Str.ofString "range") && (isBi cf sc x && (plainE xa && mE cf N a sc xa))
  | .rng2 a b, sc, _, .Call (.Name x _) [xa, xb] [] _ => decide (x = PySem.Str.ofString "range") && (isBi cf sc x && (plainE xa && (plainE xb && (mE cf N a sc xa && mE cf N b sc xb))))
  | .enum a, sc, xt, .Call (.Name x _) [xa] [] _ => decide (x = PySem.Str.ofString "enumerate") && (tupE xt && (isBi cf sc x && (plainE xa && mE cf N a sc xa)))
  | .zip a b, sc, xt, .Call (.Name x _) [xa, xb] [] _ => decide (x = PySem.Str.ofString "zip") && (tupE xt && (isBi cf sc x && (plainE xa && (plainE xb && (mE cf N a sc xa && mE cf N b sc xb)))))
  | _, _, _, _ => false
end
/-- a def that catches, as it is called from X -/
structure GuardAt (X : Cx) (c : Ctx) (g : Nat) (x : Str) : Prop where
  ex : ∃ (ga : Addr) (oc : Value) (od : Option Addr) (pg : Arguments) (bg : List Stmt) (sg : Scope) (dV kV doc pm : Value) (an : Option Addr) (cdv ct : Value) (osl : Array (Option Value)) (Ng : List Str) (a : Str),
    (X.mg x = some (.ref ga) ∧ PySem.W.keepIn X.K (.ref ga) = true ∧ X.K.lookup ga = some ⟨oc, od, .func (PySem.W.fnOf x x pg bg sg dV kV doc pm an cdv ct), osl⟩ ∧ PySem.W.codeIn X.K cdv x = true) ∧
    (L2.Binds X.K (PySem.W.fnOf x x pg bg sg dV kV doc pm an cdv ct) [a] [] ∧ FnScope Ng [a] sg ∧ Ng[0]? = some a ∧ Vis sg a) ∧ Gives X c g Ng x sg ga cdv bg a ∧ plainN a = true
  okSt : ∀ v, c.gok g = some v → v.st = true
  gxSt : ∀ k v, c.gx g k = some v → v.st = true
/-- what holds wherever the text's defs run -/
structure Okx (X : Cx) (cf : Cf) (c : Ctx) (lv : Nat) : Prop where
  calm : X.calm = true
  nd : X.N.Nodup
  un : X.A.units + 65 < cLine
  room : Room lv X.A
  fns : ∀ (f : Nat) (x : Str), cf.fns[f]? = some x → ∃ fa fd ps, FnOk X.prog X.w X.K X.mg X.base (L2N.CX X.prog X.w) lv fa fd ps (spF X.K c.cls c.call f) ∧ X.mg x = some (.ref fa) ∧ PySem.W.keepIn X.K (.ref fa) = true ∧ Binds X.K fd ps []
  cons : ∀ (i : Nat) (x : Str), cf.cons[i]? = some x → ∃ u, X.mg x = some u ∧ ∀ v, c.con i = some v → flatIs v u
  bis : ∀ x, x ∈ cf.bis → X.mg x = none
  adr : ∀ (f a : Nat), c.adr f = some a → ∃ x, cf.fns[f]? = some x ∧ X.mg x = some (.ref a)
  rais : ∀ (k : Nat) (x : Str), cf.kls[k]? = some x → ∃ C, X.mg x = some (.ref C) ∧ c.cls k = some C ∧ Rais X.K C
  lam : ∀ p q, cf.tab = some (p, q) → Room (lv + 2) X.A ∧ (∃ cc, X.env.code = .ref cc ∧ TabB X.base X.mg cc p) ∧ X.env.qual ++ "<lambda>" = strOf q
  grd : ∀ g x, cf.tab.isSome = true → g ∈ cf.grds → cf.fns[g]? = some x → GuardAt X c g x
theorem Okx.blk {X : Cx} {cf : Cf} {c : Ctx} {lv : Nat} (h : Okx X cf c lv) (s : Shared) (H : Hp) (scope : Scope) (C : Addr) (cl : List (Str × Addr)) (fp : List Addr) : Okx (X.blk s H scope (compEnvC scope cl C X.env) fp) cf c lv := by
  refine ⟨h.calm, h.nd, h.un, h.room, h.fns, h.cons, h.bis, h.adr, fun k x q => ?_, fun p q e => ?_, fun g x e m q => ?_⟩
  · exact h.rais k x q
  · exact h.lam p q e
  · obtain ⟨ex, a, b⟩ := h.grd g x e m q
    exact ⟨ex, a, b⟩
theorem Okx.Fns {X : Cx} {cf : Cf} {c : Ctx} {lv : Nat} (h : Okx X cf c lv) : QE.Fns X c := fun f a e => by
  obtain ⟨x, h1, h2⟩ := h.adr f a e
  obtain ⟨fa, fd, ps, F, hm, hk, hb⟩ := h.fns f x h1
  rw [h2] at hm
  cases hm
  exact ⟨lv, fd, ps, F, h.room, hk, hb⟩
/-- in the lambda's body -/
theorem Okx.lamQ {X : Cx} {cf : Cf} {c : Ctx} {lv : Nat} (h : Okx X cf c lv) {A : Around} {outer : List PySem.Env} {s : Shared} {H : Hp} {Z : XK} {scope : Scope} {f c' : Addr} (hr : Room lv (A.deeper (lamEnv X scope s.heap.objs.size f c'))) :
    Okx (QE.lamQ X A outer s H Z scope f c') { cf with tab := none } c lv := by
  refine ⟨rfl, h.nd, ?_, hr, h.fns, h.cons, h.bis, h.adr, fun k x q => ?_, fun p q e => by (cases e), fun g x e _ _ => by (cases e)⟩
  · have := hr.un
    show (A.deeper _).units + 65 < cLine
    omega
  · exact h.rais k x q
end QE

set_option Elab.async false
set_option linter.all false
set_option maxRecDepth 10000
set_option maxHeartbeats 1000000
/-! What the check says, shape by shape. -/
namespace QE
open PySem PySem.Spec PyProof.Rows L2 LamX L2H
theorem inv_var {cf : Cf} {N : List Str} {i : Nat} {sc : Scope} {x : Expr} (h : mE cf N (.var i) sc x = true) : ∃ y p, x = .Name y p ∧ N[i]? = some y ∧ isVis sc y = true ∧ plainN y = true := by
  unfold mE at h
  split at h <;> first | (cases h; done) | (rename_i heq; cases heq; done) | skip
  rename_i heq
  cases heq
  try simp only [Bool.and_eq_true, decide_eq_true_eq, Bool.not_eq_true'] at h
  exact ⟨_, _, rfl, h⟩
theorem inv_lit {cf : Cf} {N : List Str} {v : Val} {sc : Scope} {x : Expr} (h : mE cf N (.lit v) sc x = true) : ∃ k j p, x = .Constant k j p ∧ constOk v k = true := by
  unfold mE at h
  split at h <;> first | (cases h; done) | (rename_i heq; cases heq; done) | skip
  rename_i heq
  cases heq
  try simp only [Bool.and_eq_true, decide_eq_true_eq, Bool.not_eq_true'] at h
  exact ⟨_, _, _, rfl, h⟩
theorem inv_con {cf : Cf} {N : List Str} {i : Nat} {sc : Scope} {x : Expr} (h : mE cf N (.con i) sc x = true) : ∃ y p, x = .Name y p ∧ cf.cons[i]? = some y ∧ isGl sc y = true ∧ plainN y = true := by
  unfold mE at h
  split at h <;> first | (cases h; done) | (rename_i heq; cases heq; done) | skip
  rename_i heq
  cases heq
  try simp only [Bool.and_eq_true, decide_eq_true_eq, Bool.not_eq_true'] at h
  exact ⟨_, _, rfl, h⟩
theorem inv_bin {cf : Cf} {N : List Str} {op : BOp} {a b : E} {sc : Scope} {x : Expr} (h : mE cf N (.bin op a b) sc x = true) : ∃ xa o xb p, x = .BinOp xa o xb p ∧ opIs op o = true ∧ mE cf N a sc xa = true ∧ mE cf N b sc xb = true := by
  unfold mE at h
  split at h <;> first | (cases h; done) | (rename_i heq; cases heq; done) | skip
  rename_i heq
  cases heq
  try simp only [Bool.and_eq_true, decide_eq_true_eq, Bool.not_eq_true'] at h
  exact ⟨_, _, _, _, rfl, h⟩
theorem inv_neg {cf : Cf} {N : List Str} {a : E} {sc : Scope} {x : Expr} (h : mE cf N (.neg a) sc x = true) : ∃ xa p, x = .UnaryOp .USub xa p ∧ mE cf N a sc xa = true := by
  unfold mE at h
  split at h <;> first | (cases h; done) | (rename_i heq; cases heq; done) | skip
  rename_i heq
  cases heq
  try simp only [Bool.and_eq_true, decide_eq_true_eq, Bool.not_eq_true'] at h
  exact ⟨_, _, rfl, h⟩
theorem inv_cmp {cf : Cf} {N : List Str} {op : COp} {a b : E} {sc : Scope} {x : Expr} (h : mE cf N (.cmp op a b) sc x = true) : ∃ xa o xb p, x = .Compare xa [o] [xb] p ∧ coIs op o = true ∧ noSetE xb = true ∧ mE cf N a sc xa = true ∧ mE cf N b sc xb = true := by
  unfold mE at h
  split at h <;> first | (cases h; done) | (rename_i heq; cases heq; done) | skip
  rename_i heq
  cases heq
  try simp only [Bool.and_eq_true, decide_eq_true_eq, Bool.not_eq_true'] at h
  exact ⟨_, _, _, _, rfl, h⟩
theorem inv_chain {cf : Cf} {N : List Str} {o1 o2 : COp} {a b d : E} {sc : Scope} {x : Expr} (h : mE cf N (.chain o1 o2 a b d) sc x = true) : ∃ xa p1 p2 xb xd p, x = .Compare xa [p1, p2] [xb, xd] p ∧ (coIs o1 p1 = true ∧ coIs o2 p2 = true) ∧ noSetE xd = true ∧ mE cf N a sc xa = true ∧ mE cf N b sc xb = true ∧ mE cf N d sc xd = true := by
  unfold mE at h
  split at h <;> first | (cases h; done) | (rename_i heq; cases heq; done) | skip
  rename_i heq
  cases heq
  try simp only [Bool.and_eq_true, decide_eq_true_eq, Bool.not_eq_true'] at h
  exact ⟨_, _, _, _, _, _, rfl, h⟩
theorem inv_and {cf : Cf} {N : List Str} {es : List E} {sc : Scope} {x : Expr} (h : mE cf N (.and es) sc x = true) : ∃ xs p, x = .BoolOp .And xs p ∧ xs.isEmpty = false ∧ mEs cf N es sc xs = true := by
  unfold mE at h
  split at h <;> first | (cases h; done) | (rename_i heq; cases heq; done) | skip
  rename_i heq
  cases heq
  try simp only [Bool.and_eq_true, decide_eq_true_eq, Bool.not_eq_true'] at h
  exact ⟨_, _, rfl, h⟩
theorem inv_or {cf : Cf} {N : List Str} {es : List E} {sc : Scope} {x : Expr} (h : mE cf N (.or es) sc x = true) : ∃ xs p, x = .BoolOp .Or xs p ∧ xs.isEmpty = false ∧ mEs cf N es sc xs = true := by
  unfold mE at h
  split at h <;> first | (cases h; done) | (rename_i heq; cases heq; done) | skip
  rename_i heq
  cases heq
  try simp only [Bool.and_eq_true, decide_eq_true_eq, Bool.not_eq_true'] at h
  exact ⟨_, _, rfl, h⟩
theorem inv_not {cf : Cf} {N : List Str} {a : E} {sc : Scope} {x : Expr} (h : mE cf N (.not a) sc x = true) : ∃ xa p, x = .UnaryOp .Not xa p ∧ mE cf N a sc xa = true := by
  unfold mE at h
  split at h <;> first | (cases h; done) | (rename_i heq; cases heq; done) | skip
  rename_i heq
  cases heq
  try simp only [Bool.and_eq_true, decide_eq_true_eq, Bool.not_eq_true'] at h
  exact ⟨_, _, rfl, h⟩
theorem inv_ite {cf : Cf} {N : List Str} {t a b : E} {sc : Scope} {x : Expr} (h : mE cf N (.ite t a b) sc x = true) : ∃ xt xa xb p, x = .IfExp xt xa xb p ∧ tst t = true ∧ mE cf N t sc xt = true ∧ mE cf N a sc xa = true ∧ mE cf N b sc xb = true := by
  unfold mE at h
  split at h <;> first | (cases h; done) | (rename_i heq; cases heq; done) | skip
  rename_i heq
  cases heq
  try simp only [Bool.and_eq_true, decide_eq_true_eq, Bool.not_eq_true'] at h
  exact ⟨_, _, _, _, rfl, h⟩
theorem inv_tup {cf : Cf} {N : List Str} {es : List E} {sc : Scope} {x : Expr} (h : mE cf N (.tup es) sc x = true) : ∃ xs k p, x = .Tuple xs k p ∧ xs.all plainE = true ∧ mEs cf N es sc xs = true := by
  unfold mE at h
  split at h <;> first | (cases h; done) | (rename_i heq; cases heq; done) | skip
  rename_i heq
  cases heq
  try simp only [Bool.and_eq_true, decide_eq_true_eq, Bool.not_eq_true'] at h
  exact ⟨_, _, _, rfl, h⟩
theorem inv_list {cf : Cf} {N : List Str} {es : List E} {sc : Scope} {x : Expr} (h : mE cf N (.list es) sc x = true) : ∃ xs p, x = .List xs p ∧ xs.all plainE = true ∧ mEs cf N es sc xs = true := by
  unfold mE at h
  split at h <;> first | (cases h; done) | (rename_i heq; cases heq; done) | skip
  rename_i heq
  cases heq
  try simp only [Bool.and_eq_true, decide_eq_true_eq, Bool.not_eq_true'] at h
  exact ⟨_, _, rfl, h⟩
theorem inv_dnew {cf : Cf} {N : List Str} {t : Bool} {sc : Scope} {x : Expr} (h : mE cf N (.dnew t) sc x = true) : ∃ p, x = .Dict [] [] p := by
  unfold mE at h
  split at h <;> first | (cases h; done) | (rename_i heq; cases heq; done) | skip
  rename_i heq
  cases heq
  try simp only [Bool.and_eq_true, decide_eq_true_eq, Bool.not_eq_true'] at h
  exact ⟨_, rfl⟩
theorem inv_idx {cf : Cf} {N : List Str} {a i : E} {sc : Scope} {x : Expr} (h : mE cf N (.idx a i) sc x = true) : ∃ xa xi p, x = .Subscript xa xi p ∧ noSlice xi = true ∧ mE cf N a sc xa = true ∧ mE cf N i sc xi = true := by
  unfold mE at h
  split at h <;> first | (cases h; done) | (rename_i heq; cases heq; done) | skip
  rename_i heq
  cases heq
  try simp only [Bool.and_eq_true, decide_eq_true_eq, Bool.not_eq_true'] at h
  exact ⟨_, _, _, rfl, h⟩
theorem inv_slice {cf : Cf} {N : List Str} {a : E} {lo hi : Option E} {sc : Scope} {x : Expr} (h : mE cf N (.slice a lo hi) sc x = true) : ∃ xa xl xh p2 p, x = .Subscript xa (.Slice xl xh none p2) p ∧ mE cf N a sc xa = true ∧ mO cf N lo sc xl = true ∧ mO cf N hi sc xh = true := by
  unfold mE at h
  split at h <;> first | (cases h; done) | (rename_i heq; cases heq; done) | skip
  rename_i heq
  cases heq
  try simp only [Bool.and_eq_true, decide_eq_true_eq, Bool.not_eq_true'] at h
  exact ⟨_, _, _, _, _, rfl, h⟩
theorem inv_call {cf : Cf} {N : List Str} {f : Nat} {es : List E} {sc : Scope} {x : Expr} (h : mE cf N (.call f es) sc x = true) : ∃ y q xs p, x = .Call (.Name y q) xs [] p ∧ cf.fns[f]? = some y ∧ isGl sc y = true ∧ plainN y = true ∧ xs.all plainE = true ∧ mEs cf N es sc xs = true := by
  unfold mE at h
  split at h <;> first | (cases h; done) | (rename_i heq; cases heq; done) | skip
  rename_i heq
  cases heq
  try simp only [Bool.and_eq_true, decide_eq_true_eq, Bool.not_eq_true'] at h
  exact ⟨_, _, _, _, rfl, h⟩
theorem inv_bi {cf : Cf} {N : List Str} {b : Bi} {es : List E} {sc : Scope} {x : Expr} (h : mE cf N (.bi b es) sc x = true) : ∃ y q xs p, x = .Call (.Name y q) xs [] p ∧ y = PySem.Str.ofString (biName b) ∧ isBi cf sc y = true ∧ xs.isEmpty = false ∧ xs.all plainE = true ∧ mEs cf N es sc xs = true := by
  unfold mE at h
  split at h <;> first | (cases h; done) | (rename_i heq; cases heq; done) | skip
  rename_i heq
  cases heq
  try simp only [Bool.and_eq_true, decide_eq_true_eq, Bool.not_eq_true'] at h
  exact ⟨_, _, _, _, rfl, h⟩
theorem inv_isi {cf : Cf} {N : List Str} {t : Ty} {a : E} {sc : Scope} {x : Expr} (h : mE cf N (.isi t a) sc x = true) : ∃ y q xa z q2 p, x = .Call (.Name y q) [xa, .Name z q2] [] p ∧ y = PySem.Str.ofString "isinstance" ∧ z = PySem.Str.ofString (tyStr t) ∧ isBi cf sc y = true ∧ isBi cf sc z = true ∧ plainE xa = true ∧ mE cf N a sc xa = true := by
  unfold mE at h
  split at h <;> first | (cases h; done) | (rename_i heq; cases heq; done) | skip
  rename_i heq
  cases heq
  try simp only [Bool.and_eq_true, decide_eq_true_eq, Bool.not_eq_true'] at h
  exact ⟨_, _, _, _, _, _, rfl, h⟩
theorem inv_meth {cf : Cf} {N : List Str} {m : Me} {o a : E} {sc : Scope} {x : Expr} (h : mE cf N (.meth m o a) sc x = true) : ∃ xo nm ap xa cp, x = .Call (.Attribute xo nm ap) [xa] [] cp ∧ nm = PySem.Str.ofString (meName m) ∧ plainE xa = true ∧ plainO xo = true ∧ (ap.endLine == cp.line) = true ∧ mE cf N o sc xo = true ∧ mE cf N a sc xa = true := by
  unfold mE at h
  split at h <;> first | (cases h; done) | (rename_i heq; cases heq; done) | skip
  rename_i heq
  cases heq
  try simp only [Bool.and_eq_true, decide_eq_true_eq, Bool.not_eq_true'] at h
  exact ⟨_, _, _, _, _, rfl, h⟩
theorem inv_append {cf : Cf} {N : List Str} {o a : E} {sc : Scope} {x : Expr} (h : mE cf N (.append o a) sc x = true) : ∃ xo nm ap xa cp, x = .Call (.Attribute xo nm ap) [xa] [] cp ∧ nm = PySem.Str.ofString "append" ∧ plainE xa = true ∧ plainO xo = true ∧ (ap.endLine == cp.line) = true ∧ mE cf N o sc xo = true ∧ mE cf N a sc xa = true := by
  unfold mE at h
  split at h <;> first | (cases h; done) | (rename_i heq; cases heq; done) | skip
  rename_i heq
  cases heq
  try simp only [Bool.and_eq_true, decide_eq_true_eq, Bool.not_eq_true'] at h
  exact ⟨_, _, _, _, _, rfl, h⟩
theorem inv_comp {cf : Cf} {N : List Str} {own : List Nat} {tg : T} {src : Src} {ifs : List E} {elt : E} {sc : Scope} {x : Expr} (h : mE cf N (.comp own tg src ifs elt) sc x = true) : ∃ xe xt xi xifs isa scope p, x = .ListComp xe [⟨xt, xi, xifs, isa⟩] scope p ∧ isa = 0 ∧ own = (ownOf N scope).map (·.2) ∧ blkB N sc scope = true ∧ noSetE xi = true ∧ (tgN tg).all (fun i => decide (i ∈ own)) = true ∧ mSrc cf N src sc xt xi = true ∧ mG N (relS scope sc) (fun x => scope.names.lookup x == some .cell) tg xt = true ∧ mIfs cf N ifs (relS scope sc) xifs = true ∧ mE cf N elt (relS scope sc) xe = true := by
  unfold mE at h
  split at h <;> first | (cases h; done) | (rename_i heq; cases heq; done) | skip
  rename_i heq
  cases heq
  try simp only [Bool.and_eq_true, decide_eq_true_eq, Bool.not_eq_true'] at h
  exact ⟨_, _, _, _, _, _, _, rfl, h⟩
theorem inv_compC {cf : Cf} {N : List Str} {own : List Nat} {tg : T} {e : E} {ifs : List E} {elt : E} {sc : Scope} {x : Expr} (h : mE cf N (.compC own tg e ifs elt) sc x = true) : ∃ xe xt xi xifs isa scope p, x = .ListComp xe [⟨xt, xi, xifs, isa⟩] scope p ∧ isa = 0 ∧ own = (ownOf N scope).map (·.2) ∧ blkB N sc scope = true ∧ noSetE xi = true ∧ (tgN tg).all (fun i => decide (i ∈ own)) = true ∧ mE cf N e sc xi = true ∧ mG N (relS scope sc) (fun x => scope.names.lookup x == some .cell) tg xt = true ∧ mIfs cf N ifs (relS scope sc) xifs = true ∧ mE cf N elt (relS scope sc) xe = true := by
  unfold mE at h
  split at h <;> first | (cases h; done) | (rename_i heq; cases heq; done) | skip
  rename_i heq
  cases heq
  try simp only [Bool.and_eq_true, decide_eq_true_eq, Bool.not_eq_true'] at h
  exact ⟨_, _, _, _, _, _, _, rfl, h⟩
theorem inv_rev {cf : Cf} {N : List Str} {a : E} {sc : Scope} {x : Expr} (h : mE cf N (.rev a) sc x = true) : ∃ xa j p1 p2 p3 p, x = .Subscript xa (.Slice none none (some (.UnaryOp .USub (.Constant (.int 1) j p1) p2)) p3) p ∧ mE cf N a sc xa = true := by
  unfold mE at h
  split at h <;> first | (cases h; done) | (rename_i heq; cases heq; done) | skip
  rename_i heq
  cases heq
  simp only [Bool.and_eq_true, decide_eq_true_eq] at h
  obtain ⟨h1, h2⟩ := h
  subst h1
  exact ⟨_, _, _, _, _, _, rfl, h2⟩
theorem inv_dcomp {cf : Cf} {N : List Str} {own : List Nat} {tg : T} {src : Src} {t : Bool} {k v : E} {sc : Scope} {x : Expr} (h : mE cf N (.dcomp own tg src t k v) sc x = true) : ∃ xk xv xt xi isa scope p, x = .DictComp xk xv [⟨xt, xi, [], isa⟩] scope p ∧ isa = 0 ∧ own = (ownOf N scope).map (·.2) ∧ blkB N sc scope = true ∧ noSetE xi = true ∧ (tgN tg).all (fun i => decide (i ∈ own)) = true ∧ mSrc cf N src sc xt xi = true ∧ mG N (relS scope sc) (fun x => scope.names.lookup x == some .cell) tg xt = true ∧ mE cf N k (relS scope sc) xk = true ∧ mE cf N v (relS scope sc) xv = true := by
  unfold mE at h
  split at h <;> first | (cases h; done) | (rename_i heq; cases heq; done) | skip
  rename_i heq
  cases heq
  try simp only [Bool.and_eq_true, decide_eq_true_eq, Bool.not_eq_true'] at h
  exact ⟨_, _, _, _, _, _, _, rfl, h⟩
theorem inv_d1 {cf : Cf} {N : List Str} {t : Bool} {k v : E} {sc : Scope} {x : Expr} (h : mE cf N (.d1 t k v) sc x = true) : ∃ xk xv p, x = .Dict [some xk] [xv] p ∧ t = false ∧ mE cf N k sc xk = true ∧ mE cf N v sc xv = true := by
  cases t with
  | true => simp [mE] at h
  | false =>
    unfold mE at h
    split at h <;> first | (cases h; done) | (rename_i heq; cases heq; done) | skip
    rename_i heq
    cases heq
    try simp only [Bool.and_eq_true] at h
    exact ⟨_, _, _, rfl, rfl, h⟩
theorem inv_get {cf : Cf} {N : List Str} {d k v : E} {sc : Scope} {x : Expr} (h : mE cf N (.get d k v) sc x = true) : ∃ xo nm ap xk xv cp, x = .Call (.Attribute xo nm ap) [xk, xv] [] cp ∧ nm = PySem.Str.ofString "get" ∧ plainE xk = true ∧ plainE xv = true ∧ plainO xo = true ∧ (ap.endLine == cp.line) = true ∧ mE cf N d sc xo = true ∧ mE cf N k sc xk = true ∧ mE cf N v sc xv = true := by
  unfold mE at h
  split at h <;> first | (cases h; done) | (rename_i heq; cases heq; done) | skip
  rename_i heq
  cases heq
  try simp only [Bool.and_eq_true, decide_eq_true_eq, Bool.not_eq_true'] at h
  exact ⟨_, _, _, _, _, _, rfl, h⟩
theorem inv_trng {cf : Cf} {N : List Str} {a b : E} {sc : Scope} {x : Expr} (h : mE cf N (.trng a b) sc x = true) : ∃ y p1 z p2 xa xb p3 p4, x = .Call (.Name y p1) [.Call (.Name z p2) [xa, xb] [] p3] [] p4 ∧ y = PySem.Str.ofString "tuple" ∧ z = PySem.Str.ofString "range" ∧ isBi cf sc y = true ∧ isBi cf sc z = true ∧ plainE xa = true ∧ plainE xb = true ∧ mE cf N a sc xa = true ∧ mE cf N b sc xb = true := by
  unfold mE at h
  split at h <;> first | (cases h; done) | (rename_i heq; cases heq; done) | skip
  rename_i heq
  cases heq
  try simp only [Bool.and_eq_true, decide_eq_true_eq, Bool.not_eq_true'] at h
  exact ⟨_, _, _, _, _, _, _, _, rfl, h⟩
theorem inv_fn {cf : Cf} {N : List Str} {f : Nat} {sc : Scope} {x : Expr} (h : mE cf N (.fn f) sc x = true) : ∃ y p, x = .Name y p ∧ cf.fns[f]? = some y ∧ isGl sc y = true ∧ plainN y = true := by
  unfold mE at h
  split at h <;> first | (cases h; done) | (rename_i heq; cases heq; done) | skip
  rename_i heq
  cases heq
  try simp only [Bool.and_eq_true, decide_eq_true_eq, Bool.not_eq_true'] at h
  exact ⟨_, _, rfl, h⟩
theorem inv_callV {cf : Cf} {N : List Str} {i : Nat} {es : List E} {sc : Scope} {x : Expr} (h : mE cf N (.callV i es) sc x = true) : ∃ y q xs p, x = .Call (.Name y q) xs [] p ∧ N[i]? = some y ∧ isVis sc y = true ∧ plainN y = true ∧ xs.isEmpty = false ∧ xs.all plainE = true ∧ mEs cf N es sc xs = true := by
  unfold mE at h
  split at h <;> first | (cases h; done) | (rename_i heq; cases heq; done) | skip
  rename_i heq
  cases heq
  try simp only [Bool.and_eq_true, decide_eq_true_eq, Bool.not_eq_true'] at h
  exact ⟨_, _, _, _, rfl, h⟩
theorem inv_guard {cf : Cf} {N : List Str} {g j p : Nat} {q : List Nat} {eb : E} {sc : Scope} {x : Expr} (h : mE cf N (.guard g j p q eb) sc x = true) : ∃ y p1 params body scope lp cp, x = .Call (.Name y p1) [.Lambda params body scope lp] [] cp ∧ cf.tab = some (p, q) ∧ g ∈ cf.grds ∧ cf.fns[g]? = some y ∧ isGl sc y = true ∧ plainN y = true ∧ noPar params = true ∧ lamSB sc scope = true ∧ mX { cf with tab := none } N eb scope body = true := by
  unfold mE at h
  split at h <;> first | (cases h; done) | (rename_i heq; cases heq; done) | skip
  rename_i heq
  cases heq
  try simp only [Bool.and_eq_true, decide_eq_true_eq, Bool.not_eq_true'] at h
  exact ⟨_, _, _, _, _, _, _, rfl, h⟩
theorem inv_xcall {cf : Cf} {N : List Str} {f : Nat} {es : List E} {sc : Scope} {x : Expr} (h : mX cf N (.call f es) sc x = true) : ∃ y q xs p, x = .Call (.Name y q) xs [] p ∧ cf.fns[f]? = some y ∧ isGl sc y = true ∧ plainN y = true ∧ xs.isEmpty = false ∧ xs.all plainE = true ∧ mEs cf N es sc xs = true := by
  unfold mX at h
  split at h <;> first | (cases h; done) | (rename_i heq; cases heq; done) | skip
  rename_i heq
  cases heq
  try simp only [Bool.and_eq_true, decide_eq_true_eq, Bool.not_eq_true'] at h
  exact ⟨_, _, _, _, rfl, h⟩
theorem inv_xcallV {cf : Cf} {N : List Str} {i : Nat} {es : List E} {sc : Scope} {x : Expr} (h : mX cf N (.callV i es) sc x = true) : ∃ y q xs p, x = .Call (.Name y q) xs [] p ∧ N[i]? = some y ∧ isVis sc y = true ∧ plainN y = true ∧ xs.isEmpty = false ∧ xs.all plainE = true ∧ mEs cf N es sc xs = true := by
  unfold mX at h
  split at h <;> first | (cases h; done) | (rename_i heq; cases heq; done) | skip
  rename_i heq
  cases heq
  try simp only [Bool.and_eq_true, decide_eq_true_eq, Bool.not_eq_true'] at h
  exact ⟨_, _, _, _, rfl, h⟩
end QE

set_option Elab.async false
set_option linter.all false
set_option maxRecDepth 10000
set_option maxHeartbeats 1000000
/-! The check is sound: expressions. -/
namespace QE
open PySem PySem.Spec PyProof.Rows L2 LamX L2H
theorem vis_ok {X : Cx} {x : Str} (h : isVis X.env.scope x = true) : Vis X.env.scope x := by
  simp only [isVis, Bool.or_eq_true, decide_eq_true_eq] at h
  exact h
theorem loc_ok {X : Cx} {x : Str} (h : isLoc X.env.scope x = true) : L2.Loc X.env.scope x := by
  simp only [isLoc, Bool.or_eq_true, decide_eq_true_eq] at h
  exact h
theorem gl_ok {X : Cx} {x : Str} (h : isGl X.env.scope x = true) : Gl X x := by
  simp only [isGl, decide_eq_true_eq] at h
  exact h
theorem plain1 {x : Str} (h : plainN x = true) : (x == ("__debug__" : Str)) = false := by
  simp only [plainN, Bool.and_eq_true, Bool.not_eq_true', decide_eq_false_iff_not] at h
  exact h.1
theorem plain2 {x : Str} (h : plainN x = true) : (x == ("__classdict__" : Str)) = false := by
  simp only [plainN, Bool.and_eq_true, Bool.not_eq_true', decide_eq_false_iff_not] at h
  exact h.2.1
theorem plain3 {x : Str} (h : plainN x = true) : x ≠ ("__name__" : Str) := by
  simp only [plainN, Bool.and_eq_true, Bool.not_eq_true', decide_eq_false_iff_not] at h
  exact h.2.2
section
variable {X : Cx} {cf : Cf} {c : Ctx} {lv : Nat}
theorem bi_ok (ok : Okx X cf c lv) {x : Str} (h : isBi cf X.env.scope x = true) : Gl X x ∧ X.mg x = none ∧ plainN x = true := by
  simp only [isBi, Bool.and_eq_true, decide_eq_true_eq] at h
  exact ⟨gl_ok h.1, ok.bis x h.2.1, h.2.2⟩
mutual
theorem okG (ok : Okx X cf c lv) {fb : Str → Bool} (hf : ∀ x, fb x = true → X.fn x = true) : ∀ (t : T) (e : Expr), mG X.N X.env.scope fb t e = true → PG X e (tG X.K t)
  | .name i, e, h => by
    unfold mG at h
    split at h <;> first | (cases h; done) | (rename_i heq; cases heq; done) | skip
    rename_i heq
    cases heq
    simp only [Bool.and_eq_true, decide_eq_true_eq, Bool.or_eq_true] at h
    exact g_name ok.nd h.1 (loc_ok h.2.1) (h.2.2.elim (fun z => .inl (hf _ z)) fun z => .inr (by simp only [isL, decide_eq_true_eq] at z; exact z))
  | .tup ts, e, h => by
    unfold mG at h
    split at h <;> first | (cases h; done) | (rename_i heq; cases heq; done) | skip
    rename_i heq
    cases heq
    simp only [Bool.and_eq_true, decide_eq_true_eq] at h
    exact g_tup ok.calm (okGs ok hf ts _ h.2.2) h.1 h.2.1
theorem okGs (ok : Okx X cf c lv) {fb : Str → Bool} (hf : ∀ x, fb x = true → X.fn x = true) : ∀ (ts : List T) (es : List Expr), mGs X.N X.env.scope fb ts es = true → PGs X es (tGs X.K ts)
  | [], [], _ => gs_nil
  | [], _ :: _, h => by simp [mGs] at h
  | _ :: _, [], h => by simp [mGs] at h
  | t :: ts, e :: es, h => by
    simp only [mGs, Bool.and_eq_true] at h
    have hp : plainG e = true := by
      cases e <;> first | rfl | (exfalso; cases t <;> simp [mG] at h)
    exact gs_cons (okG ok hf t e h.1) (okGs ok hf ts es h.2) hp
end
end
theorem tup_shape {x : Expr} (h : tupE x = true) : ∃ es k p, x = .Tuple es k p := by
  cases x <;> simp only [tupE] at h <;> first | (cases h; done) | exact ⟨_, _, _, rfl⟩
mutual
theorem okE : ∀ (e : E) {X : Cx} {cf : Cf} {c : Ctx} {lv : Nat} {x : Expr}, Okx X cf c lv → mE cf X.N e X.env.scope x = true → PE X x (tE X.K c e) ∧ (tst e = true → PT X x (tT X.K c e))
  | .var i, X, cf, c, lv, x, ok, h => by
    obtain ⟨y, p, rfl, h1, h2, h3⟩ := inv_var h
    have := s_var (c := c) (pos := p) h1 (vis_ok h2) (plain1 h3) (plain2 h3)
    exact ⟨this, fun _ => t_val this rfl⟩
  | .lit v, X, cf, c, lv, x, ok, h => by
    obtain ⟨k, j, p, rfl, h1⟩ := inv_lit h
    have := s_lit (X := X) (c := c) (pos := p) (j := j) h1
    exact ⟨this, fun _ => t_val this rfl⟩
  | .con i, X, cf, c, lv, x, ok, h => by
    obtain ⟨y, p, rfl, h1, h2, h3⟩ := inv_con h
    obtain ⟨u, hm, hu⟩ := ok.cons i y h1
    have := s_con (X := X) (c := c) (pos := p) (gl_ok h2) hm hu (plain1 h3)
    exact ⟨this, fun _ => t_val this rfl⟩
  | .bin op a b, X, cf, c, lv, x, ok, h => by
    obtain ⟨xa, o, xb, p, rfl, h1, h2, h3⟩ := inv_bin h
    cases opIs_ok h1
    exact ⟨s_bin (okE a ok h2).1 (okE b ok h3).1, fun z => by cases z⟩
  | .neg a, X, cf, c, lv, x, ok, h => by
    obtain ⟨xa, p, rfl, h1⟩ := inv_neg h
    exact ⟨s_neg (okE a ok h1).1, fun z => by cases z⟩
  | .cmp op a b, X, cf, c, lv, x, ok, h => by
    obtain ⟨xa, o, xb, p, rfl, h1, h2, h3, h4⟩ := inv_cmp h
    cases coIs_ok h1
    exact ⟨s_cmp ok.un (okE a ok h3).1 (okE b ok h4).1 h2, fun _ => t_cmp ok.un (okE a ok h3).1 (okE b ok h4).1 h2⟩
  | .chain o1 o2 a b d, X, cf, c, lv, x, ok, h => by
    obtain ⟨xa, p1, p2, xb, xd, p, rfl, ⟨h1, h1'⟩, h2, h3, h4, h5⟩ := inv_chain h
    cases coIs_ok h1
    cases coIs_ok h1'
    exact ⟨s_chain ok.un (okE a ok h3).1 (okE b ok h4).1 (okE d ok h5).1 h2, fun _ => t_chain ok.un (okE a ok h3).1 (okE b ok h4).1 (okE d ok h5).1 h2⟩
  | .and es, X, cf, c, lv, x, ok, h => by
    obtain ⟨xs, p, rfl, h1, h2⟩ := inv_and h
    have := okAnd es ok p h1 h2
    exact ⟨this.1, fun z => (this.2 (by simpa only [tst] using z)).pt⟩
  | .or es, X, cf, c, lv, x, ok, h => by
    obtain ⟨xs, p, rfl, h1, h2⟩ := inv_or h
    have := okOr es ok p h1 h2
    exact ⟨this.1, fun z => (this.2 (by simpa only [tst] using z)).pt⟩
  | .not a, X, cf, c, lv, x, ok, h => by
    obtain ⟨xa, p, rfl, h1⟩ := inv_not h
    exact ⟨s_not (okE a ok h1).1, fun z => t_not ((okE a ok h1).2 (by simpa only [tst] using z))⟩
  | .ite t a b, X, cf, c, lv, x, ok, h => by
    obtain ⟨xt, xa, xb, p, rfl, h0, h1, h2, h3⟩ := inv_ite h
    exact ⟨s_ite ((okE t ok h1).2 h0) (okE a ok h2).1 (okE b ok h3).1, fun z => by cases z⟩
  | .tup es, X, cf, c, lv, x, ok, h => by
    obtain ⟨xs, k, p, rfl, h1, h2⟩ := inv_tup h
    exact ⟨s_tup (okEs es ok h1 h2), fun z => by cases z⟩
  | .list es, X, cf, c, lv, x, ok, h => by
    obtain ⟨xs, p, rfl, h1, h2⟩ := inv_list h
    exact ⟨s_list (okEs es ok h1 h2), fun z => by cases z⟩
  | .dnew t, X, cf, c, lv, x, ok, h => by
    obtain ⟨p, rfl⟩ := inv_dnew h
    exact ⟨s_dnew, fun z => by cases z⟩
  | .idx a i, X, cf, c, lv, x, ok, h => by
    obtain ⟨xa, xi, p, rfl, h1, h2, h3⟩ := inv_idx h
    have := s_idx (pos := p) ok.un (okE a ok h2).1 (okE i ok h3).1 h1
    exact ⟨this, fun _ => t_val this rfl⟩
  | .slice a lo hi, X, cf, c, lv, x, ok, h => by
    obtain ⟨xa, xl, xh, p2, p, rfl, h1, h2, h3⟩ := inv_slice h
    have := s_slice (pos := p) (p2 := p2) (okE a ok h1).1 (okO lo ok h2) (okO hi ok h3)
    exact ⟨this, fun _ => t_val this rfl⟩
  | .call f es, X, cf, c, lv, x, ok, h => by
    obtain ⟨y, q, xs, p, rfl, h1, h2, h3, h4, h5⟩ := inv_call h
    obtain ⟨fa, fd, ps, F, hm, hk, hb⟩ := ok.fns f y h1
    have hr := ok.room
    have : PE X (.Call (.Name y q) xs [] p) (tE X.K c (.call f es)) := by
      cases xs with
      | nil =>
        cases es with
        | nil => exact s_call0 F hr (gl_ok h2) hm hk hb (plain1 h3)
        | cons _ _ => simp [mEs] at h5
      | cons xa xs => exact s_call F hr (gl_ok h2) hm hk hb (okEs es ok h4 h5) (plain1 h3) h4
    exact ⟨this, fun _ => t_val this rfl⟩
  | .bi b es, X, cf, c, lv, x, ok, h => by
    obtain ⟨y, q, xs, p, rfl, h1, h2, h3, h4, h5⟩ := inv_bi h
    obtain ⟨hg, hm, hn⟩ := bi_ok ok h2
    cases xs with
    | nil => cases h3
    | cons xa xs =>
      have := s_bi (p := q) (pos := p) ok.calm ok.un h1 hg hm (okEs es ok h4 h5) h4 (plain3 hn) (plain1 hn)
      exact ⟨this, fun _ => t_val this rfl⟩
  | .isi t a, X, cf, c, lv, x, ok, h => by
    obtain ⟨y, q, xa, z, q2, p, rfl, h1, h2, h3, h4, h5, h6⟩ := inv_isi h
    obtain ⟨hg, hm, hn⟩ := bi_ok ok h3
    obtain ⟨hg2, hm2, hn2⟩ := bi_ok ok h4
    have := s_isi (p := q) (pos := p) (p2 := q2) h1 h2 hg hm hg2 hm2 (okE a ok h6).1 h5 (plain3 hn) (plain1 hn) (plain3 hn2) (plain1 hn2)
    exact ⟨this, fun _ => t_val this rfl⟩
  | .meth m o a, X, cf, c, lv, x, ok, h => by
    obtain ⟨xo, nm, ap, xa, cp, rfl, h1, h2, h3, h4, h5, h6⟩ := inv_meth h
    have := s_meth ok.un h1 (okE o ok h5).1 (okE a ok h6).1 h2 h3 h4
    exact ⟨this, fun _ => t_val this rfl⟩
  | .append o a, X, cf, c, lv, x, ok, h => by
    obtain ⟨xo, nm, ap, xa, cp, rfl, h1, h2, h3, h4, h5, h6⟩ := inv_append h
    have := s_append (c := c) h1 (okE o ok h5).1 (okE a ok h6).1 h2 h3 h4
    exact ⟨this, fun _ => t_val this rfl⟩
  | .comp own tg src ifs elt, X, cf, c, lv, x, ok, h => by
    obtain ⟨xe, xt, xi, xifs, isa, scope, p, rfl, h1, h2, h3, h4, h5, h6, h7, h8, h9⟩ := inv_comp h
    subst h1 h2
    simp only [List.all_eq_true, decide_eq_true_eq] at h5
    refine ⟨s_comp ok.calm ok.nd (okSrc src ok h6) (blk_ok h3) (fun s H C cl fp => okG (ok.blk s H scope C cl fp) (fun x z => z) tg xt h7) (fun s H C cl fp => okIfs ifs (ok.blk s H scope C cl fp) h8) (fun s H C cl fp => (okE elt (ok.blk s H scope C cl fp) h9).1) h4 h5, fun z => by cases z⟩
  | .dcomp own tg src t k v, X, cf, c, lv, x, ok, h => by
    obtain ⟨xk, xv, xt, xi, isa, scope, p, rfl, h1, h2, h3, h4, h5, h6, h7, h8, h9⟩ := inv_dcomp h
    subst h1 h2
    simp only [List.all_eq_true, decide_eq_true_eq] at h5
    refine ⟨s_dcomp ok.un ok.calm ok.nd (okSrc src ok h6) (blk_ok h3) (fun s H C cl fp => okG (ok.blk s H scope C cl fp) (fun x z => z) tg xt h7) (fun s H C cl fp => (okE k (ok.blk s H scope C cl fp) h8).1) (fun s H C cl fp => (okE v (ok.blk s H scope C cl fp) h9).1) h4 h5, fun z => by cases z⟩
  | .rev a, X, cf, c, lv, x, ok, h => by
    obtain ⟨xa, j, p1, p2, p3, p, rfl, h1⟩ := inv_rev h
    exact ⟨s_rev (okE a ok h1).1, fun z => by cases z⟩
  | .compC own tg e ifs elt, X, cf, c, lv, x, ok, h => by
    obtain ⟨xe, xt, xi, xifs, isa, scope, p, rfl, h1, h2, h3, h4, h5, h6, h7, h8, h9⟩ := inv_compC h
    subst h1 h2
    simp only [List.all_eq_true, decide_eq_true_eq] at h5
    refine ⟨s_compC ok.calm ok.nd (okE e ok h6).1 (blk_ok h3) (fun s H C cl fp => okG (ok.blk s H scope C cl fp) (fun x z => z) tg xt h7) (fun s H C cl fp => okIfs ifs (ok.blk s H scope C cl fp) h8) (fun s H C cl fp => (okE elt (ok.blk s H scope C cl fp) h9).1) h4 h5, fun z => by cases z⟩
  | .d1 t k v, X, cf, c, lv, x, ok, h => by
    obtain ⟨xk, xv, p, rfl, rfl, h1, h2⟩ := inv_d1 h
    exact ⟨s_d1 (okE k ok h1).1 (okE v ok h2).1, fun z => by cases z⟩
  | .get d k v, X, cf, c, lv, x, ok, h => by
    obtain ⟨xo, nm, ap, xk, xv, cp, rfl, h1, h2, h3, h4, h5, h6, h7, h8⟩ := inv_get h
    exact ⟨s_get ok.un h1 (okE d ok h6).1 (okE k ok h7).1 (okE v ok h8).1 h2 h3 h4 h5, fun z => by cases z⟩
  | .trng a b, X, cf, c, lv, x, ok, h => by
    obtain ⟨y, p1, z, p2, xa, xb, p3, p4, rfl, h1, h2, h3, h4, h5, h6, h7, h8⟩ := inv_trng h
    obtain ⟨hg, hm, hn⟩ := bi_ok ok h3
    obtain ⟨hg2, hm2, hn2⟩ := bi_ok ok h4
    exact ⟨s_trng ok.calm h1 h2 hg hm hg2 hm2 (okE a ok h7).1 (okE b ok h8).1 h5 h6, fun z => by cases z⟩
  | .fn f, X, cf, c, lv, x, ok, h => by
    obtain ⟨y, p, rfl, h1, h2, h3⟩ := inv_fn h
    refine ⟨s_fn (fun a e => ?_) (gl_ok h2) (plain1 h3), fun z => by cases z⟩
    obtain ⟨y', k1, k2⟩ := ok.adr f a e
    rw [h1] at k1
    cases k1
    exact k2
  | .callV i es, X, cf, c, lv, x, ok, h => by
    obtain ⟨y, q, xs, p, rfl, h1, h2, h3, h4, h5, h6⟩ := inv_callV h
    cases xs with
    | nil => cases h4
    | cons xa xs => exact ⟨s_callV ok.Fns h1 (vis_ok h2) (okEs es ok h5 h6) (plain1 h3) (plain2 h3) h5, fun z => by cases z⟩
  | .guard g j P q eb, X, cf, c, lv, x, ok, h => by
    obtain ⟨y, p1, params, body, scope, lp, cp, rfl, h1, h2, h3, h4, h5, h6, h7, h8⟩ := inv_guard h
    obtain ⟨hr2, ⟨cc, hcode, TB⟩, hq⟩ := ok.lam P q h1
    obtain ⟨⟨ga, oc, od, pg, bg, sg, dV, kV, doc, pm, an, cdv, ct, osl, Ng, a, ⟨g1, g2, g3, g4⟩, ⟨g5, g6, g7, g8⟩, g9, g10⟩, e1, e2⟩ := ok.grd g y (by rw [h1]; rfl) h2 h3
    have hpar : params = ⟨[], [], none, [], [], none, []⟩ := by
      unfold noPar at h6
      split at h6
      · rfl
      · cases h6
    subst hpar
    refine ⟨s_guard (gl_ok h4) g1 g2 g3 g4 g5 g6 g7 g8 g9 e1 e2 TB hcode hq hr2 (lamS_by h7) rfl (fun _ _ _ _ _ => rfl) (fun A outer s H Z f c' hr => ?_) (plain1 h5) (plain1 g10) (plain2 g10), fun z => by cases z⟩
    exact okX eb (ok.lamQ (Z := Z) hr) (L2N.passes_call (lamQ_takes (X := X)) (fun _ _ _ _ h => h)) h8
  | .isx _ _, _, _, _, _, _, _, h => by simp [mE] at h
  | .cell e, X, cf, c, lv, x, ok, h => by
    simp only [mE] at h
    exact ⟨s_cell (okE e ok h).1, fun z => by cases z⟩
termination_by structural e => e
theorem okX : ∀ (e : E) {X : Cx} {cf : Cf} {c : Ctx} {lv : Nat} {x : Expr} {Z : XK}, Okx X cf c lv → Passes (L2N.CX X.prog X.w) X Z → mX cf X.N e X.env.scope x = true → PE X x (tX X.K c e Z)
  | .call f es, X, cf, c, lv, x, Z, ok, hx, h => by
    obtain ⟨y, q, xs, p, rfl, h1, h2, h3, h4, h5, h6⟩ := inv_xcall h
    obtain ⟨fa, fd, ps, F, hm, hk, hb⟩ := ok.fns f y h1
    cases xs with
    | nil => cases h4
    | cons xa xs => exact x_call F ok.room (gl_ok h2) hm hk hb hx (okEs es ok h5 h6) (plain1 h3) h5
  | .callV i es, X, cf, c, lv, x, Z, ok, hx, h => by
    obtain ⟨y, q, xs, p, rfl, h1, h2, h3, h4, h5, h6⟩ := inv_xcallV h
    cases xs with
    | nil => cases h4
    | cons xa xs => exact x_callV ok.Fns h1 (vis_ok h2) hx (okEs es ok h5 h6) (plain1 h3) (plain2 h3) h5
  | .var _, _, _, _, _, _, _, _, _, h => by simp [mX] at h
  | .lit _, _, _, _, _, _, _, _, _, h => by simp [mX] at h
  | .con _, _, _, _, _, _, _, _, _, h => by simp [mX] at h
  | .bin _ _ _, _, _, _, _, _, _, _, _, h => by simp [mX] at h
  | .neg _, _, _, _, _, _, _, _, _, h => by simp [mX] at h
  | .cmp _ _ _, _, _, _, _, _, _, _, _, h => by simp [mX] at h
  | .chain _ _ _ _ _, _, _, _, _, _, _, _, _, h => by simp [mX] at h
  | .and _, _, _, _, _, _, _, _, _, h => by simp [mX] at h
  | .or _, _, _, _, _, _, _, _, _, h => by simp [mX] at h
  | .not _, _, _, _, _, _, _, _, _, h => by simp [mX] at h
  | .ite _ _ _, _, _, _, _, _, _, _, _, h => by simp [mX] at h
  | .tup _, _, _, _, _, _, _, _, _, h => by simp [mX] at h
  | .list _, _, _, _, _, _, _, _, _, h => by simp [mX] at h
  | .dnew _, _, _, _, _, _, _, _, _, h => by simp [mX] at h
  | .idx _ _, _, _, _, _, _, _, _, _, h => by simp [mX] at h
  | .slice _ _ _, _, _, _, _, _, _, _, _, h => by simp [mX] at h
  | .bi _ _, _, _, _, _, _, _, _, _, h => by simp [mX] at h
  | .isi _ _, _, _, _, _, _, _, _, _, h => by simp [mX] at h
  | .meth _ _ _, _, _, _, _, _, _, _, _, h => by simp [mX] at h
  | .append _ _, _, _, _, _, _, _, _, _, h => by simp [mX] at h
  | .comp _ _ _ _ _, _, _, _, _, _, _, _, _, h => by simp [mX] at h
  | .dcomp _ _ _ _ _ _, _, _, _, _, _, _, _, _, h => by simp [mX] at h
  | .cell _, _, _, _, _, _, _, _, _, h => by simp [mX] at h
  | .rev _, _, _, _, _, _, _, _, _, h => by simp [mX] at h
  | .compC _ _ _ _ _, _, _, _, _, _, _, _, _, h => by simp [mX] at h
  | .d1 _ _ _, _, _, _, _, _, _, _, _, h => by simp [mX] at h
  | .get _ _ _, _, _, _, _, _, _, _, _, h => by simp [mX] at h
  | .trng _ _, _, _, _, _, _, _, _, _, h => by simp [mX] at h
  | .fn _, _, _, _, _, _, _, _, _, h => by simp [mX] at h
  | .guard _ _ _ _ _, _, _, _, _, _, _, _, _, h => by simp [mX] at h
  | .isx _ _, _, _, _, _, _, _, _, _, h => by simp [mX] at h
termination_by structural e => e
theorem okEs : ∀ (es : List E) {X : Cx} {cf : Cf} {c : Ctx} {lv : Nat} {xs : List Expr}, Okx X cf c lv → xs.all plainE = true → mEs cf X.N es X.env.scope xs = true → PA X xs (tEs X.K c es)
  | [], X, cf, c, lv, xs, ok, hp, h => by
    cases xs with
    | nil => exact a_nil
    | cons _ _ => simp [mEs] at h
  | e :: es, X, cf, c, lv, xs, ok, hp, h => by
    cases xs with
    | nil => simp [mEs] at h
    | cons x xs =>
      simp only [mEs, Bool.and_eq_true] at h
      simp only [List.all_cons, Bool.and_eq_true] at hp
      exact a_cons (okE e ok h.1).1 (okEs es ok hp.2 h.2) hp.1
termination_by structural e => e
theorem okAnd : ∀ (es : List E) {X : Cx} {cf : Cf} {c : Ctx} {lv : Nat} {xs : List Expr} (_ : Okx X cf c lv) (p : Pos), xs.isEmpty = false → mEs cf X.N es X.env.scope xs = true →
    PE X (.BoolOp .And xs p) (tE X.K c (.and es)) ∧ (tstL es = true → PW X (.BoolOp .And xs p) (tT X.K c (.and es)))
  | [], X, cf, c, lv, xs, ok, p, hn, h => by
    cases xs with
    | nil => cases hn
    | cons _ _ => simp [mEs] at h
  | e :: es, X, cf, c, lv, xs, ok, p, hn, h => by
    cases xs with
    | nil => cases hn
    | cons x xs =>
      simp only [mEs, Bool.and_eq_true] at h
      have h1 := okE (c := c) e ok h.1
      cases xs with
      | nil =>
        cases es with
        | nil => exact ⟨s_and1 h1.1, fun z => w_and1 (h1.2 (by simpa [tstL] using z))⟩
        | cons _ _ => simp [mEs] at h
      | cons y ys =>
        cases es with
        | nil => simp [mEs] at h
        | cons e2 es =>
          have h2 := okAnd (c := c) (e2 :: es) ok p (xs := y :: ys) rfl h.2
          refine ⟨s_and h1.1 h2.1, fun z => ?_⟩
          rw [tstL, Bool.and_eq_true] at z
          exact w_and (h1.2 z.1) (h2.2 z.2)
termination_by structural e => e
theorem okOr : ∀ (es : List E) {X : Cx} {cf : Cf} {c : Ctx} {lv : Nat} {xs : List Expr} (_ : Okx X cf c lv) (p : Pos), xs.isEmpty = false → mEs cf X.N es X.env.scope xs = true →
    PE X (.BoolOp .Or xs p) (tE X.K c (.or es)) ∧ (tstL es = true → PW X (.BoolOp .Or xs p) (tT X.K c (.or es)))
  | [], X, cf, c, lv, xs, ok, p, hn, h => by
    cases xs with
    | nil => cases hn
    | cons _ _ => simp [mEs] at h
  | e :: es, X, cf, c, lv, xs, ok, p, hn, h => by
    cases xs with
    | nil => cases hn
    | cons x xs =>
      simp only [mEs, Bool.and_eq_true] at h
      have h1 := okE (c := c) e ok h.1
      cases xs with
      | nil =>
        cases es with
        | nil => exact ⟨s_or1 h1.1, fun z => w_or1 (h1.2 (by simpa [tstL] using z))⟩
        | cons _ _ => simp [mEs] at h
      | cons y ys =>
        cases es with
        | nil => simp [mEs] at h
        | cons e2 es =>
          have h2 := okOr (c := c) (e2 :: es) ok p (xs := y :: ys) rfl h.2
          refine ⟨s_or h1.1 h2.1, fun z => ?_⟩
          rw [tstL, Bool.and_eq_true] at z
          exact w_or (h1.2 z.1) (h2.2 z.2)
termination_by structural e => e
theorem okO : ∀ (o : Option E) {X : Cx} {cf : Cf} {c : Ctx} {lv : Nat} {x : Option Expr}, Okx X cf c lv → mO cf X.N o X.env.scope x = true → PO X x (tO X.K c o)
  | none, X, cf, c, lv, x, ok, h => by
    cases x with
    | none => exact o_none
    | some _ => simp [mO] at h
  | some e, X, cf, c, lv, x, ok, h => by
    cases x with
    | none => simp [mO] at h
    | some x =>
      simp only [mO] at h
      exact o_some (okE e ok h).1
termination_by structural e => e
theorem okIfs : ∀ (es : List E) {X : Cx} {cf : Cf} {c : Ctx} {lv : Nat} {xs : List Expr}, Okx X cf c lv → mIfs cf X.N es X.env.scope xs = true → PTs X xs (tBs (evalAnd c) X.K es)
  | [], X, cf, c, lv, xs, ok, h => by
    cases xs with
    | nil => exact ifs_nil
    | cons _ _ => simp [mIfs] at h
  | [e], X, cf, c, lv, xs, ok, h => by
    match xs, h with
    | [x], h =>
      simp only [mIfs, Bool.and_eq_true] at h
      exact ifs_one ((okE e ok h.2).2 h.1)
    | [], h => simp [mIfs] at h
    | _ :: _ :: _, h => simp [mIfs] at h
  | _ :: _ :: _, X, cf, c, lv, xs, ok, h => by simp [mIfs] at h
termination_by structural e => e
theorem okSrc : ∀ (s : Src) {X : Cx} {cf : Cf} {c : Ctx} {lv : Nat} {xt x : Expr}, Okx X cf c lv → mSrc cf X.N s X.env.scope xt x = true → PI X xt x (tI X.K c s)
  | .it e, X, cf, c, lv, xt, x, ok, h => by
    simp only [mSrc] at h
    exact i_it (okE e ok h).1
  | .rng1 a, X, cf, c, lv, xt, x, ok, h => by
    unfold mSrc at h
    split at h <;> first | (cases h; done) | (rename_i heq; cases heq; done) | skip
    rename_i heq
    cases heq
    simp only [Bool.and_eq_true, decide_eq_true_eq] at h
    obtain ⟨h1, h2, h3, h4⟩ := h
    obtain ⟨hg, hm, hn⟩ := bi_ok ok h2
    exact i_rng1 h1 hg hm (okE a ok h4).1 h3
  | .rng2 a b, X, cf, c, lv, xt, x, ok, h => by
    unfold mSrc at h
    split at h <;> first | (cases h; done) | (rename_i heq; cases heq; done) | skip
    rename_i heq
    cases heq
    simp only [Bool.and_eq_true, decide_eq_true_eq] at h
    obtain ⟨h1, h2, h3, h4, h5, h6⟩ := h
    obtain ⟨hg, hm, hn⟩ := bi_ok ok h2
    exact i_rng2 h1 hg hm (okE a ok h5).1 h3 (okE b ok h6).1 h4
  | .enum a, X, cf, c, lv, xt, x, ok, h => by
    unfold mSrc at h
    split at h <;> first | (cases h; done) | (rename_i heq; cases heq; done) | skip
    rename_i heq
    cases heq
    simp only [Bool.and_eq_true, decide_eq_true_eq] at h
    obtain ⟨h1, h0, h2, h3, h4⟩ := h
    obtain ⟨hg, hm, hn⟩ := bi_ok ok h2
    obtain ⟨u1, u2, u3, eu⟩ := tup_shape h0
    rw [eu]
    exact i_enum h1 hg hm (okE a ok h4).1 h3
  | .zipL _ _, _, _, _, _, _, _, _, h => by simp [mSrc] at h
  | .zip a b, X, cf, c, lv, xt, x, ok, h => by
    unfold mSrc at h
    split at h <;> first | (cases h; done) | (rename_i heq; cases heq; done) | skip
    rename_i heq
    cases heq
    simp only [Bool.and_eq_true, decide_eq_true_eq] at h
    obtain ⟨h1, h0, h2, h3, h4, h5, h6⟩ := h
    obtain ⟨hg, hm, hn⟩ := bi_ok ok h2
    obtain ⟨u1, u2, u3, eu⟩ := tup_shape h0
    rw [eu]
    exact i_zip h1 hg hm (okE a ok h5).1 h3 (okE b ok h6).1 h4
termination_by structural e => e
end
end QE

set_option Elab.async false
set_option linter.all false
set_option maxRecDepth 10000
set_option maxHeartbeats 1000000
/-! The check is sound: statements, defs, texts. -/
namespace QE
open PySem PySem.Spec PyProof.Rows L2 LamX L2H
def noOwn (scope : Scope) (y : Str) : Bool := !(scope.names.any fun (n, k) => n == y && (k == .local || k == .cell))
/-- a comprehension that goes into a name by the short road -/
def swapB (sc : Scope) : Expr → Expr → Bool
  | .Name y py, .ListComp _ _ scope p => isL sc y && ((py.line == p.line) && noOwn scope y)
  | .Name y py, .DictComp _ _ _ scope p => isL sc y && ((py.line == p.line) && noOwn scope y)
  | _, _ => false
def strip : E → E
  | .cell e => e
  | e => e
def isComp : E → Bool
  | .comp _ _ _ _ _ => true
  | .dcomp _ _ _ _ _ _ => true
  | _ => false
theorem strip_read {K : PySem.W.Frag} {c : Ctx} (e : E) : ∀ σ H Q, tE K c e σ H Q → tE K c (strip e) σ H Q := by
  intro σ H Q h
  unfold strip
  split
  · exact cell_read h
  · exact h
def mSw (cf : Cf) (N : List Str) (sc : Scope) : T → E → Expr → Expr → Bool
  | .name i, e, .Name y _, x => decide (N[i]? = some y) && (isComp (strip e) && mE cf N (strip e) sc x)
  | _, _, _, _ => false
mutual
def mS (cf : Cf) (N : List Str) : Stm → Scope → Stmt → Bool
  | .asg tg e, sc, .Assign [t] x _ => if swapB sc t x then mSw cf N sc tg e t x else ((noComp x || (noName t || celT sc t)) && ((noTup x || (noSeqT t || celTs sc t)) && (plainG t && (mE cf N e sc x && mG N sc (fun _ => true) tg t))))
  | .par [i, j] es, sc, .Assign [.Tuple [.Name x px, .Name y py] _ _] (.Tuple [a, b] _ _) _ => (decide (N[i]? = some x) && (decide (N[j]? = some y) && decide (i ≠ j))) && ((isL sc x && isL sc y) && (((py.line == px.line) && (!(x == y))) &&
      (([a, b].all plainE && (!([a, b].all (foldedForSure 8)) && !([a, b].all (constantsAlone 8)))) && mEs cf N es sc [a, b])))
  | .par [i, j, l] es, sc, .Assign [.Tuple [.Name x px, .Name y py, .Name z pz] _ _] (.Tuple [a, b, d] _ _) _ => (decide (N[i]? = some x) && (decide (N[j]? = some y) && (decide (N[l]? = some z) && (decide (i ≠ j) && (decide (i ≠ l) && decide (j ≠ l)))))) &&
      ((isL sc x && (isL sc y && isL sc z)) && (((py.line == px.line) && ((pz.line == px.line) && (!(x == y) && (!(x == z) && !(y == z))))) &&
      (([a, b, d].all plainE && (!([a, b, d].all (foldedForSure 8)) && !([a, b, d].all (constantsAlone 8)))) && mEs cf N es sc [a, b, d])))
  | .setIx o i e, sc, .Assign [.Subscript xo xi _] x _ => noSlice xi && (mE cf N e sc x && (mE cf N o sc xo && mE cf N i sc xi))
  | .aug i op e, sc, .AugAssign (.Name y _) o x _ => augOk op && (opIs op o && (decide (N[i]? = some y) && (isLoc sc y && mE cf N e sc x)))
  | .ext i e, sc, .AugAssign (.Name y _) .Add x _ => decide (N[i]? = some y) && (isLoc sc y && mE cf N e sc x)
  | .expr e, sc, .Expr x _ => noComp x && mE cf N e sc x
  | .ret e, sc, .Return (some x) _ => mE cf N e sc x
  | .retN, _, .Return none _ => true
  | .if_ t a b, sc, .If xt xa xb _ => tst t && (mE cf N t sc xt && (mSs cf N a sc xa && mSs cf N b sc xb))
  | .for_ tg src body, sc, .For xt xi xb [] _ => noSetE xi && (mSrc cf N src sc xt xi && (mG N sc (fun _ => true) tg xt && mSs cf N body sc xb))
  | .while_ t body, sc, .While xt xb [] _ => tst t && (mE cf N t sc xt && mSs cf N body sc xb)
  | .brk, _, .Break _ => true
  | .cont, _, .Continue _ => true
  | .pass, _, .Pass _ => true
  | .raise_ k, sc, .Raise (some (.Call (.Name x _) [.Constant (.str _) _ _] [] _)) none _ => decide (cf.kls[k]? = some x) && (isGl sc x && plainN x)
  | .xcall (.call f es), sc, .Expr x _ => mX cf N (.call f es) sc x
  | .augIx o i op e, sc, .AugAssign (.Subscript xo xi _) q x _ => (augOk op && opIs op q) && (noSlice xi && (mE cf N e sc x && (mE cf N o sc xo && mE cf N i sc xi)))
  | .forD tg i body, sc, .For xt (.Name y _) xb [] _ => (decide (N[i]? = some y) && (isVis sc y && plainN y)) && (mG N sc (fun _ => true) tg xt && mSs cf N body sc xb)
  | .opq, _, _ => true
  | _, _, _ => false
def mSs (cf : Cf) (N : List Str) : List Stm → Scope → List Stmt → Bool
  | [], _, [] => true
  | s :: ss, sc, x :: xs => mS cf N s sc x && mSs cf N ss sc xs
  | _, _, _ => false
end
section
variable {X : Cx} {cf : Cf} {c : Ctx} {lv : Nat} {W : WX}
theorem isL_ok {x : Str} (h : isL X.env.scope x = true) : X.env.scope.names.lookup x = some .local := by
  simp only [isL, decide_eq_true_eq] at h
  exact h
theorem noOwn_ok {scope : Scope} {y : Str} (h : noOwn scope y = true) : (scope.names.any fun (n, k) => n == y && (k == .local || k == .cell)) = false := by
  simpa only [noOwn, Bool.not_eq_true'] using h
theorem block_fn (hk : X.env.scope.kind = .function) : X.env.blockKind = .function := by unfold Env.blockKind; rw [hk]; rfl
theorem okSw (ok : Okx X cf c lv) (hk : X.env.scope.kind = .function) {tg : T} {e : E} {t x : Expr} {pos : Pos} (hs : swapB X.env.scope t x = true) (h : mSw cf X.N X.env.scope tg e t x = true) : PS X (.Assign [t] x pos) (tS X.K c W (.asg tg e)) := by
  unfold mSw at h
  split at h
  · rename_i i y py
    simp only [Bool.and_eq_true, decide_eq_true_eq] at h
    obtain ⟨hi, hc, hm⟩ := h
    have rd := strip_read (K := X.K) (c := c) e
    revert hm hc rd
    generalize strip e = e'
    intro hc hm rd
    cases e' with
    | comp own g src ifs elt =>
      obtain ⟨xe, xt, xi, xifs, isa, scope, p, rfl, h1, h2, h3, h4, h5, h6, h7, h8, h9⟩ := inv_comp hm
      subst h1 h2
      simp only [List.all_eq_true, decide_eq_true_eq] at h5
      simp only [swapB, Bool.and_eq_true] at hs
      exact s_setComp rd ok.calm ok.nd hi (isL_ok hs.1) (sw_true hk (isL_ok hs.1) hs.2.1 (noOwn_ok hs.2.2)) (okSrc src ok h6) (blk_ok h3) (fun s H C cl fp => okG (ok.blk s H scope C cl fp) (fun x z => z) g xt h7) (fun s H C cl fp => okIfs ifs (ok.blk s H scope C cl fp) h8)
        (fun s H C cl fp => (okE elt (ok.blk s H scope C cl fp) h9).1) h4 h5
    | dcomp own g src t k v =>
      obtain ⟨xk, xv, xt, xi, isa, scope, p, rfl, h1, h2, h3, h4, h5, h6, h7, h8, h9⟩ := inv_dcomp hm
      subst h1 h2
      simp only [List.all_eq_true, decide_eq_true_eq] at h5
      simp only [swapB, Bool.and_eq_true] at hs
      exact s_setDcomp rd ok.un ok.calm ok.nd hi (isL_ok hs.1) (swD_true hk (isL_ok hs.1) hs.2.1 (noOwn_ok hs.2.2)) (okSrc src ok h6) (blk_ok h3) (fun s H C cl fp => okG (ok.blk s H scope C cl fp) (fun x z => z) g xt h7)
        (fun s H C cl fp => (okE k (ok.blk s H scope C cl fp) h8).1) (fun s H C cl fp => (okE v (ok.blk s H scope C cl fp) h9).1) h4 h5
    | _ => cases hc
  · cases h
end
mutual
theorem okS : ∀ (s : Stm) {X : Cx} {cf : Cf} {c : Ctx} {lv : Nat} {W : WX} {x : Stmt}, Okx X cf c lv → X.env.scope.kind = .function → (∀ y, X.fn y = true) → PassesOwn (model X.prog X.w) X.A X.env X.xe → L2N.Takes X W → mS cf X.N s X.env.scope x = true → PS X x (tS X.K c W s)
  | .asg tg e, X, cf, c, lv, W, x, ok, hk, hf, hp, tk, h => by
    unfold mS at h
    split at h <;> first | (cases h; done) | (rename_i heq; cases heq; done) | skip
    rename_i heq
    cases heq
    split at h
    · rename_i hs
      exact okSw ok hk hs h
    · simp only [Bool.and_eq_true, Bool.or_eq_true] at h
      exact s_asg (okE e ok h.2.2.2.1).1 (okG ok (fun x _ => hf x) tg _ h.2.2.2.2) h.2.2.1 h.1 h.2.1
  | .par is es, X, cf, c, lv, W, x, ok, hk, hf, hp, tk, h => by
    unfold mS at h
    split at h <;> first | (cases h; done) | (rename_i heq; cases heq; done) | skip
    · rename_i heq
      cases heq
      simp only [Bool.and_eq_true, decide_eq_true_eq, Bool.not_eq_true'] at h
      obtain ⟨⟨hi, hj, hij⟩, ⟨hx, hy⟩, ⟨hl, hne⟩, ⟨hpl, hfo, hco⟩, hes⟩ := h
      exact s_par2 ok.calm ok.nd hi hj hij (block_fn hk) (isL_ok hx) (isL_ok hy) (okEs es ok hpl hes) hl hne hpl hfo hco
    · rename_i heq
      cases heq
      simp only [Bool.and_eq_true, decide_eq_true_eq, Bool.not_eq_true'] at h
      obtain ⟨⟨hi, hj, hl', hij, hil, hjl⟩, ⟨hx, hy, hz⟩, ⟨hl, hl2, hne, hxz, hyz⟩, ⟨hpl, hfo, hco⟩, hes⟩ := h
      exact s_par3 ok.calm ok.nd hi hj hl' hij hil hjl (block_fn hk) (isL_ok hx) (isL_ok hy) (isL_ok hz) (okEs es ok hpl hes) hl hl2 hne hxz hyz hpl hfo hco
  | .setIx o i e, X, cf, c, lv, W, x, ok, hk, hf, hp, tk, h => by
    unfold mS at h
    split at h <;> first | (cases h; done) | (rename_i heq; cases heq; done) | skip
    rename_i heq
    cases heq
    simp only [Bool.and_eq_true] at h
    exact s_setIx ok.un (okE e ok h.2.1).1 (okE o ok h.2.2.1).1 (okE i ok h.2.2.2).1 h.1
  | .aug i op e, X, cf, c, lv, W, x, ok, hk, hf, hp, tk, h => by
    unfold mS at h
    split at h <;> first | (cases h; done) | (rename_i heq; cases heq; done) | skip
    rename_i heq
    cases heq
    simp only [Bool.and_eq_true, decide_eq_true_eq] at h
    obtain ⟨h1, h2, h3, h4, h5⟩ := h
    cases opIs_ok h2
    exact s_aug h1 ok.nd h3 (loc_ok h4) (okE e ok h5).1 (.inl (hf _))
  | .ext i e, X, cf, c, lv, W, x, ok, hk, hf, hp, tk, h => by
    unfold mS at h
    split at h <;> first | (cases h; done) | (rename_i heq; cases heq; done) | skip
    rename_i heq
    cases heq
    simp only [Bool.and_eq_true, decide_eq_true_eq] at h
    exact s_ext ok.nd h.1 (loc_ok h.2.1) (okE e ok h.2.2).1 (.inl (hf _))
  | .expr e, X, cf, c, lv, W, x, ok, hk, hf, hp, tk, h => by
    unfold mS at h
    split at h <;> first | (cases h; done) | (rename_i heq; cases heq; done) | skip
    rename_i heq
    cases heq
    simp only [Bool.and_eq_true] at h
    exact s_expr (okE e ok h.2).1 h.1
  | .ret e, X, cf, c, lv, W, x, ok, hk, hf, hp, tk, h => by
    unfold mS at h
    split at h <;> first | (cases h; done) | (rename_i heq; cases heq; done) | skip
    rename_i heq
    cases heq
    exact s_ret (okE e ok h).1
  | .retN, X, cf, c, lv, W, x, ok, hk, hf, hp, tk, h => by
    cases x with
    | Return v p =>
      cases v with
      | none => exact s_retN
      | some _ => simp [mS] at h
    | _ => simp [mS] at h
  | .if_ t a b, X, cf, c, lv, W, x, ok, hk, hf, hp, tk, h => by
    unfold mS at h
    split at h <;> first | (cases h; done) | (rename_i heq; cases heq; done) | skip
    rename_i heq
    cases heq
    simp only [Bool.and_eq_true] at h
    exact s_if ((okE t ok h.2.1).2 h.1) (okSs a ok hk hf hp tk h.2.2.1) (okSs b ok hk hf hp tk h.2.2.2)
  | .for_ tg src body, X, cf, c, lv, W, x, ok, hk, hf, hp, tk, h => by
    unfold mS at h
    split at h <;> first | (cases h; done) | (rename_i heq; cases heq; done) | skip
    rename_i heq
    cases heq
    simp only [Bool.and_eq_true] at h
    exact s_for hp ok.calm (okSrc src ok h.2.1) (okG ok (fun x _ => hf x) tg _ h.2.2.1) (okSs body ok hk hf hp tk h.2.2.2) h.1
  | .while_ t body, X, cf, c, lv, W, x, ok, hk, hf, hp, tk, h => by
    unfold mS at h
    split at h <;> first | (cases h; done) | (rename_i heq; cases heq; done) | skip
    rename_i heq
    cases heq
    simp only [Bool.and_eq_true] at h
    exact s_while hp ((okE t ok h.2.1).2 h.1) (okSs body ok hk hf hp tk h.2.2)
  | .brk, X, cf, c, lv, W, x, ok, hk, hf, hp, tk, h => by
    cases x with
    | Break p => exact s_brk
    | _ => simp [mS] at h
  | .cont, X, cf, c, lv, W, x, ok, hk, hf, hp, tk, h => by
    cases x with
    | Continue p => exact s_cont
    | _ => simp [mS] at h
  | .pass, X, cf, c, lv, W, x, ok, hk, hf, hp, tk, h => by
    cases x with
    | Pass p => exact s_pass
    | _ => simp [mS] at h
  | .raise_ k, X, cf, c, lv, W, x, ok, hk, hf, hp, tk, h => by
    unfold mS at h
    split at h <;> first | (cases h; done) | (rename_i heq; cases heq; done) | skip
    rename_i heq
    cases heq
    simp only [Bool.and_eq_true, decide_eq_true_eq] at h
    obtain ⟨C, hm, hC, R⟩ := ok.rais _ _ h.1
    exact s_raise ok.calm tk R hm hC (gl_ok h.2.1) (plain1 h.2.2)
  | .xcall e, X, cf, c, lv, W, x, ok, hk, hf, hp, tk, h => by
    unfold mS at h
    split at h <;> first | (cases h; done) | (rename_i heq; cases heq; done) | skip
    rename_i heq
    cases heq
    obtain ⟨y, q, xs, p, rfl, h1, h2, h3, h4, h5, h6⟩ := inv_xcall h
    obtain ⟨fa, fd, ps, F, hm, hk', hb⟩ := ok.fns _ y h1
    cases xs with
    | nil => cases h4
    | cons xa xs => exact s_xcall tk F ok.room (gl_ok h2) hm hk' hb (okEs _ ok h5 h6) (plain1 h3) h5
  | .augIx o i op e, X, cf, c, lv, W, x, ok, hk, hf, hp, tk, h => by
    unfold mS at h
    split at h <;> first | (cases h; done) | (rename_i heq; cases heq; done) | skip
    rename_i heq
    cases heq
    simp only [Bool.and_eq_true] at h
    obtain ⟨⟨h0, hq⟩, h1, h2, h3, h4⟩ := h
    cases opIs_ok hq
    exact s_augIx ok.un h0 (okE o ok h3).1 (okE i ok h4).1 (okE e ok h2).1 h1
  | .forD tg i body, X, cf, c, lv, W, x, ok, hk, hf, hp, tk, h => by
    unfold mS at h
    split at h <;> first | (cases h; done) | (rename_i heq; cases heq; done) | skip
    rename_i heq
    cases heq
    simp only [Bool.and_eq_true, decide_eq_true_eq] at h
    obtain ⟨⟨h1, h2, h3⟩, h4, h5⟩ := h
    exact s_forD hp ok.calm h1 (vis_ok h2) (plain1 h3) (plain2 h3) (okG ok (fun x _ => hf x) tg _ h4) (okSs body ok hk hf hp tk h5)
  | .opq, X, cf, c, lv, W, x, ok, hk, hf, hp, tk, h => s_opq
theorem okSs : ∀ (ss : List Stm) {X : Cx} {cf : Cf} {c : Ctx} {lv : Nat} {W : WX} {xs : List Stmt}, Okx X cf c lv → X.env.scope.kind = .function → (∀ y, X.fn y = true) → PassesOwn (model X.prog X.w) X.A X.env X.xe → L2N.Takes X W → mSs cf X.N ss X.env.scope xs = true → PSs X xs (tSs X.K c W ss)
  | [], X, cf, c, lv, W, xs, ok, hk, hf, hp, tk, h => by
    cases xs with
    | nil => exact ss_nil
    | cons _ _ => simp [mSs] at h
  | s :: ss, X, cf, c, lv, W, xs, ok, hk, hf, hp, tk, h => by
    cases xs with
    | nil => simp [mSs] at h
    | cons x xs =>
      simp only [mSs, Bool.and_eq_true] at h
      exact ss_cons (okS s ok hk hf hp tk h.1) (okSs ss ok hk hf hp tk h.2)
end

end QE

set_option Elab.async false
set_option linter.all false
set_option maxRecDepth 10000
set_option maxHeartbeats 1000000
/-! The text of an except suite beside the evaluator's text. -/
namespace QE
open PySem PySem.Spec PyProof.Rows L2 LamX L2H
def nmT : T → Bool
  | .name _ => true
  | _ => false
mutual
def mH (cf : Cf) (N : List Str) : E → Scope → Expr → Bool
  | .var i, sc, .Name x _ => decide (N[i]? = some x) && (isVis sc x && plainN x)
  | .lit v, _, .Constant k _ _ => constOk v k
  | .tup es, sc, .Tuple xs _ _ => xs.all plainE && mHs cf N es sc xs
  | .list es, sc, .List xs _ => xs.all plainE && mHs cf N es sc xs
  | .isx a k, sc, .Call (.Name x _) [xa, .Name y _] [] _ => decide (x = PySem.Str.ofString "isinstance") && (isBi cf sc x && (plainE xa && (decide (cf.ecl[k]? = some y) && (isGl sc y && (plainN y && mH cf N a sc xa)))))
  | .bi .tuple [e], sc, .Call (.Name x _) [xa] [] _ => decide (x = PySem.Str.ofString "tuple") && (isBi cf sc x && (plainE xa && mH cf N e sc xa))
  | .comp own tg (.zipL a b) [.var i] (.var j), sc, .ListComp (.Name ye _) [⟨.Tuple es k tp, .Call (.Name x _) [xa, xb] [] _, [.Name yt _], isa⟩] scope _ => (decide (isa = 0) && (decide (own = (ownOf N scope).map (·.2)) && (blkB N sc scope && (tgN tg).all (fun i => decide (i ∈ own))))) &&
      ((decide (x = PySem.Str.ofString "zip") && (isBi cf sc x && (plainE xa && (plainE xb && (mH cf N a sc xa && mH cf N b sc xb))))) && ((match tg with
        | .tup ts => ts.all nmT && (es.all plainG && (decide (es.length = ts.length) && mGs N (relS scope sc) (fun x => scope.names.lookup x == some .cell) ts es))
        | _ => false) &&
      ((decide (N[i]? = some yt) && (isVis (relS scope sc) yt && plainN yt)) && (decide (N[j]? = some ye) && (isVis (relS scope sc) ye && plainN ye)))))
  | _, _, _ => false
def mHs (cf : Cf) (N : List Str) : List E → Scope → List Expr → Bool
  | [], _, [] => true
  | e :: es, sc, x :: xs => mH cf N e sc x && mHs cf N es sc xs
  | _, _, _ => false
end
def mHS (cf : Cf) (N : List Str) : Stm → Scope → Stmt → Bool
  | .asg (.name i) e, sc, .Assign [.Name y _] x _ => noComp x && (noTup x && (decide (N[i]? = some y) && (isL sc y && mH cf N e sc x)))
  | .ret e, sc, .Return (some x) _ => mH cf N e sc x
  | _, _, _ => false
def mHSs (cf : Cf) (N : List Str) : List Stm → Scope → List Stmt → Bool
  | [], _, [] => true
  | s :: ss, sc, x :: xs => mHS cf N s sc x && mHSs cf N ss sc xs
  | _, _, _ => false
/-- what holds in an except suite -/
structure Hkx (X : Cx) (cf : Cf) (c : Ctx) : Prop where
  nd : X.N.Nodup
  hot : HotC X
  bis : ∀ x, x ∈ cf.bis → X.mg x = none
  ecl : ∀ (k : Nat) (y : Str), cf.ecl[k]? = some y → ∃ (u : V) (cv : Value), (RelV u cv ∧ ∀ w, RelV u w → w = cv) ∧ (X.mg y = some cv ∨ (X.mg y = none ∧ bootBuiltins y = some cv)) ∧ ∀ k' a D b, c.exn = some (k', a) → c.cls k' = some D → c.sub k' k = some b → PySem.W.kitOne X.K (.ref D) cv = some b
  ise : ∀ k' a, c.exn = some (k', a) → ∃ D, c.cls k' = some D ∧ CallR X (.builtin "isinstance") (rIsE X.K D a)
section
variable {X : Cx} {cf : Cf} {c : Ctx}
theorem Hkx.bi (ok : Hkx X cf c) {x : Str} (h : isBi cf X.env.scope x = true) : Gl X x ∧ X.mg x = none ∧ plainN x = true := by
  simp only [isBi, Bool.and_eq_true, decide_eq_true_eq] at h
  exact ⟨gl_ok h.1, ok.bis x h.2.1, h.2.2⟩
theorem okGsH {Y : Cx} (nd : Y.N.Nodup) {fb : Str → Bool} (hf : ∀ x, fb x = true → Y.fn x = true) : ∀ (ts : List T) (es : List Expr), mGs Y.N Y.env.scope fb ts es = true → (∀ t ∈ ts, ∃ i, t = .name i) → PGs Y es (tGs Y.K ts)
  | [], [], h, _ => gs_nil
  | [], _ :: _, h, _ => by simp [mGs] at h
  | _ :: _, [], h, _ => by simp [mGs] at h
  | t :: ts, e :: es, h, ht => by
    simp only [mGs, Bool.and_eq_true] at h
    obtain ⟨i, rfl⟩ := ht t (by simp)
    cases e with
    | Name x p =>
      have h1 := h.1
      simp only [mG, Bool.and_eq_true, decide_eq_true_eq, Bool.or_eq_true] at h1
      refine gs_cons (g_name nd h1.1 (loc_ok h1.2.1) (h1.2.2.elim (fun z => .inl (hf x z)) fun z => .inr (isL_ok z))) (okGsH nd hf ts es h.2 fun t m => ht t (by simp [m])) rfl
    | _ => simp [mG] at h
theorem nm_all {ts : List T} (h : ts.all nmT = true) : ∀ t ∈ ts, ∃ i, t = .name i := fun t m => by
  have := List.all_eq_true.mp h t m
  cases t with
  | name i => exact ⟨i, rfl⟩
  | tup _ => cases this
theorem ecl_pe (ok : Hkx X cf c) {k : Nat} {y : Str} (h1 : cf.ecl[k]? = some y) (h2 : isGl X.env.scope y = true) (h3 : plainN y = true) : ∃ (u : V) (cv : Value), ClsV X y u cv ∧ ∀ k' a D b, c.exn = some (k', a) → c.cls k' = some D → c.sub k' k = some b → PySem.W.kitOne X.K (.ref D) cv = some b := by
  obtain ⟨u, cv, ⟨r1, r2⟩, m, hs⟩ := ok.ecl k y h1
  refine ⟨u, cv, ⟨fun pos => ?_, r2⟩, hs⟩
  rcases m with m | ⟨m, b⟩
  · exact pe_glob (gl_ok h2) m r1 (plain1 h3)
  · exact pe_bltn (gl_ok h2) m b r1 (plain3 h3) (plain1 h3)
mutual
theorem okH (ok : Hkx X cf c) : ∀ (e : E) (x : Expr), mH cf X.N e X.env.scope x = true → PE X x (tE X.K c e)
  | .var i, x, h => by
    unfold mH at h
    split at h <;> first | (cases h; done) | (rename_i heq; cases heq; done) | skip
    rename_i heq
    cases heq
    simp only [Bool.and_eq_true, decide_eq_true_eq] at h
    exact s_var h.1 (vis_ok h.2.1) (plain1 h.2.2) (plain2 h.2.2)
  | .lit v, x, h => by
    unfold mH at h
    split at h <;> first | (cases h; done) | (rename_i heq; cases heq; done) | skip
    rename_i heq
    cases heq
    exact s_lit h
  | .tup es, x, h => by
    unfold mH at h
    split at h <;> first | (cases h; done) | (rename_i heq; cases heq; done) | skip
    rename_i heq
    cases heq
    simp only [Bool.and_eq_true] at h
    exact s_tup (okHs ok es _ h.1 h.2)
  | .list es, x, h => by
    unfold mH at h
    split at h <;> first | (cases h; done) | (rename_i heq; cases heq; done) | skip
    rename_i heq
    cases heq
    simp only [Bool.and_eq_true] at h
    exact s_list (okHs ok es _ h.1 h.2)
  | .isx a k, x, h => by
    unfold mH at h
    split at h <;> first | (cases h; done) | (rename_i heq; cases heq; done) | skip
    rename_i heq
    cases heq
    simp only [Bool.and_eq_true, decide_eq_true_eq] at h
    obtain ⟨h1, h2, h3, h4, h5, h6, h7⟩ := h
    obtain ⟨hg, hm, hn⟩ := ok.bi h2
    obtain ⟨u, cv, hy, hs⟩ := ecl_pe ok h4 h5 h6
    exact s_isx h1 hg hm (plain3 hn) (plain1 hn) (okH ok a _ h7) h3 hy hs ok.ise
  | .bi b es, x, h => by
    unfold mH at h
    split at h <;> first | (cases h; done) | (rename_i heq; cases heq; done) | skip
    rename_i heq
    cases heq
    simp only [Bool.and_eq_true, decide_eq_true_eq] at h
    obtain ⟨h1, h2, h3, h4⟩ := h
    obtain ⟨hg, hm, hn⟩ := ok.bi h2
    exact s_tupleC h1 hg hm (a_cons (okH ok _ _ h4) a_nil h3) (by simp [h3]) (plain3 hn) (plain1 hn)
  | .comp own tg src ifs elt, x, h => by
    unfold mH at h
    split at h <;> first | (cases h; done) | (rename_i heq; cases heq; done) | skip
    rename_i heq
    cases heq
    simp only [Bool.and_eq_true, decide_eq_true_eq] at h
    obtain ⟨⟨h1, h2, h3, h4⟩, ⟨h5, h6, h7, h8, h9, h10⟩, h11, ⟨h12, h13, h14⟩, ⟨h15, h16, h17⟩⟩ := h
    subst h1 h2
    obtain ⟨hg, hm, hn⟩ := ok.bi h6
    cases tg with
    | name _ => cases h11
    | tup ts =>
      simp only [Bool.and_eq_true, decide_eq_true_eq] at h11
      obtain ⟨k1, k2, k3, k4⟩ := h11
      simp only [List.all_eq_true, decide_eq_true_eq] at h4
      exact s_compH ok.hot ok.nd (i_zipH h5 hg hm (okH ok _ _ h9) h7 (okH ok _ _ h10) h8) (blk_ok h3)
        (fun z G C cl fp => g_tupH (QH.blkQ_hot ok.hot) (okGsH (Y := QH.blkQ X z G _ (compEnvC _ cl C X.env) fp) ok.nd (fun x q => q) ts _ k4 (nm_all k1)) k2 k3)
        (fun z G C cl fp => ifs_one (t_val (s_var h12 (vis_ok (X := QH.blkQ X z G _ (compEnvC _ cl C X.env) fp) h13) (plain1 h14) (plain2 h14)) rfl))
        (fun z G C cl fp => s_var h15 (vis_ok (X := QH.blkQ X z G _ (compEnvC _ cl C X.env) fp) h16) (plain1 h17) (plain2 h17)) rfl h4
  | .con _, _, h => by simp [mH] at h
  | .bin _ _ _, _, h => by simp [mH] at h
  | .neg _, _, h => by simp [mH] at h
  | .cmp _ _ _, _, h => by simp [mH] at h
  | .chain _ _ _ _ _, _, h => by simp [mH] at h
  | .and _, _, h => by simp [mH] at h
  | .or _, _, h => by simp [mH] at h
  | .not _, _, h => by simp [mH] at h
  | .ite _ _ _, _, h => by simp [mH] at h
  | .dnew _, _, h => by simp [mH] at h
  | .idx _ _, _, h => by simp [mH] at h
  | .slice _ _ _, _, h => by simp [mH] at h
  | .call _ _, _, h => by simp [mH] at h
  | .isi _ _, _, h => by simp [mH] at h
  | .meth _ _ _, _, h => by simp [mH] at h
  | .append _ _, _, h => by simp [mH] at h
  | .dcomp _ _ _ _ _ _, _, h => by simp [mH] at h
  | .cell _, _, h => by simp [mH] at h
  | .rev _, _, h => by simp [mH] at h
  | .compC _ _ _ _ _, _, h => by simp [mH] at h
  | .d1 _ _ _, _, h => by simp [mH] at h
  | .get _ _ _, _, h => by simp [mH] at h
  | .trng _ _, _, h => by simp [mH] at h
  | .fn _, _, h => by simp [mH] at h
  | .callV _ _, _, h => by simp [mH] at h
  | .guard _ _ _ _ _, _, h => by simp [mH] at h
theorem okHs (ok : Hkx X cf c) : ∀ (es : List E) (xs : List Expr), xs.all plainE = true → mHs cf X.N es X.env.scope xs = true → PA X xs (tEs X.K c es)
  | [], xs, hp, h => by
    cases xs with
    | nil => exact a_nil
    | cons _ _ => simp [mHs] at h
  | e :: es, xs, hp, h => by
    cases xs with
    | nil => simp [mHs] at h
    | cons x xs =>
      simp only [mHs, Bool.and_eq_true] at h
      simp only [List.all_cons, Bool.and_eq_true] at hp
      exact a_cons (okH ok e x h.1) (okHs ok es xs hp.2 h.2) hp.1
end
theorem okHS (ok : Hkx X cf c) {W : WX} (s : Stm) (x : Stmt) (h : mHS cf X.N s X.env.scope x = true) : PS X x (tS X.K c W s) := by
  unfold mHS at h
  split at h
  · simp only [Bool.and_eq_true, decide_eq_true_eq] at h
    obtain ⟨h1, h2, h3, h4, h5⟩ := h
    exact s_asg (okH ok _ _ h5) (g_name ok.nd h3 (.inl (isL_ok h4)) (.inr (isL_ok h4))) rfl (.inl h1) (.inl h2)
  · exact s_ret (okH ok _ _ h)
  · cases h
theorem okHSs (ok : Hkx X cf c) {W : WX} : ∀ (ss : List Stm) (xs : List Stmt), mHSs cf X.N ss X.env.scope xs = true → PSs X xs (tSs X.K c W ss)
  | [], xs, h => by
    cases xs with
    | nil => exact ss_nil
    | cons _ _ => simp [mHSs] at h
  | s :: ss, xs, h => by
    cases xs with
    | nil => simp [mHSs] at h
    | cons x xs =>
      simp only [mHSs, Bool.and_eq_true] at h
      exact ss_cons (okHS ok s x h.1) (okHSs ok ss xs h.2)
end
end QE

set_option Elab.async false
set_option linter.all false
set_option maxRecDepth 10000
set_option maxHeartbeats 1000000
/-! Texts: defs, defs that catch. -/
namespace QE
open PySem PySem.Spec PyProof.Rows L2 LamX L2H
/-- a def of the text: its name, its text, its names, its parameters; its code object, the table there, the name of its lambdas -/
structure Ent where
  x : Str
  st : Stmt
  N : List Str
  ps : List Str
  tab : Option (Nat × Nat × List Nat) := none
/-- a def that catches: its place, the caught one's name, the suite, the rest, the class -/
structure Grd where
  g : Nat
  i : Nat
  st : List Stm
  sr : List Stm
  cs : Str
def scB (N ps : List Str) (sc : Scope) : Bool := decide (sc.kind = .function) && (decide (sc.isCoroutine = false) && (decide (sc.isGenerator = false) && (decide (N.Nodup) && (decide (N.take ps.length = ps) && (ps.all (fun x => isLoc sc x) && sc.names.all (fun y => decide (y.2 ≠ .free)))))))
theorem scB_ok {N ps : List Str} {sc : Scope} (h : scB N ps sc = true) : FnScope N ps sc := by
  simp only [scB, Bool.and_eq_true, decide_eq_true_eq, List.all_eq_true, isLoc, Bool.or_eq_true] at h
  obtain ⟨h1, h2, h3, h4, h5, h6, h7⟩ := h
  exact ⟨h1, h2, h3, h4, h5, h6, h7⟩
def cfOf (cf : Cf) (e : Ent) : Cf := { cf with tab := e.tab.map fun t => t.2 }
def tabB (e : Ent) : Bool := match e.tab with
  | some (_, _, q) => decide (e.x ++ ".<locals>." ++ "<lambda>" = strOf q)
  | none => true
def chkE (cf : Cf) (d : Def) (e : Ent) : Bool := decide (d.arity = e.ps.length) && (decide (d.size = e.N.length) && (tabB e && (scB e.N e.ps (defScope e.st) && mSs (cfOf cf e) e.N d.body (defScope e.st) (defBody e.st))))
def chkAll (cf : Cf) : List Def → List Ent → Bool
  | [], [] => true
  | d :: ds, e :: es => chkE cf d e && chkAll cf ds es
  | _, _ => false
theorem chk_get {cf : Cf} : ∀ {ds : List Def} {es : List Ent} {f : Nat} {e : Ent}, chkAll cf ds es = true → es[f]? = some e → ∃ d, ds[f]? = some d ∧ chkE cf d e = true
  | [], [], _, _, _, q => by simp at q
  | [], _ :: _, _, _, h, _ => by simp [chkAll] at h
  | _ :: _, [], _, _, _, q => by simp at q
  | d :: ds, e :: es, 0, e', h, q => by
    simp only [chkAll, Bool.and_eq_true] at h
    simp at q
    subst q
    exact ⟨d, rfl, h.1⟩
  | d :: ds, e :: es, f + 1, e', h, q => by
    simp only [chkAll, Bool.and_eq_true] at h
    simpa using chk_get h.2 (by simpa using q)
/-- where the defs lie -/
def Lies (K : PySem.W.Frag) (mg : Str → Option Value) (e : Ent) : Prop := ∃ fa fd, Fun K e.x e.x e.st fa fd ∧ mg e.x = some (.ref fa) ∧ Binds K fd e.ps [] ∧ ∀ cc p q, e.tab = some (cc, p, q) → fd.code = .ref cc
def AllLie (K : PySem.W.Frag) (mg : Str → Option Value) : List Ent → Prop
  | [] => True
  | e :: es => Lies K mg e ∧ AllLie K mg es
theorem lie_get {K : PySem.W.Frag} {mg : Str → Option Value} : ∀ {es : List Ent} {f : Nat} {e : Ent}, AllLie K mg es → es[f]? = some e → Lies K mg e
  | [], _, _, _, q => by simp at q
  | e :: es, 0, e', h, q => by simp at q; subst q; exact h.1
  | e :: es, f + 1, e', h, q => lie_get h.2 (by simpa using q)
/-! ### defs that catch -/
def restB : List Stm → List Stmt → Bool
  | [.ret (.lit v)], [.Return (some (.Constant k _ _)) _] => constOk v k
  | [.ret (.tup [])], [.Return (some (.Tuple [] _ _)) _] => true
  | _, _ => false
theorem restB_ok {X : Cx} {c : Ctx} {W : WX} {ss : List Stm} {xs : List Stmt} (h : restB ss xs = true) : PSs X xs (tSs X.K c W ss) := by
  unfold restB at h
  split at h
  · exact ss_cons (s_ret (s_lit h)) ss_nil
  · exact ss_cons (s_ret (s_tup a_nil)) ss_nil
  · cases h
def chkG (cf : Cf) (G : Grd) (e : Ent) : Bool := match e.ps, defBody e.st with
  | [a], .Try [.Expr (.Call (.Name a' _) [] [] _) _] [.ExceptHandler (some (.Name x _)) (some nm) (b :: suite) _] [] [] _ :: rest =>
    (decide (a' = a) && (decide (x = G.cs) && (plainN a && plainN x))) && ((decide (e.N[G.i]? = some nm) && (isL (defScope e.st) nm && (isGl (defScope e.st) x && scB e.N e.ps (defScope e.st)))) && (mHSs cf e.N G.st (defScope e.st) (b :: suite) && restB G.sr rest))
  | _, _ => false
/-- what is known of the classes -/
structure Clss (K : PySem.W.Frag) (mg : Str → Option Value) (cf : Cf) (cls : Nat → Option Nat) (sub : Nat → Nat → Option Bool) : Prop where
  ecl : ∀ (k : Nat) (y : Str), cf.ecl[k]? = some y → ∃ (u : V) (cv : Value), (RelV u cv ∧ ∀ w, RelV u w → w = cv) ∧ (mg y = some cv ∨ (mg y = none ∧ bootBuiltins y = some cv)) ∧ ∀ k' D b, cls k' = some D → sub k' k = some b → PySem.W.kitOne K (.ref D) cv = some b
  exc : ∀ k D, cls k = some D → ExcC K D
theorem guard_mk {X : Cx} {c : Ctx} {cf : Cf} {G : Grd} {e : Ent} {CS : Value} (h : chkG cf G e = true) (hl : Lies X.K X.mg e) (C : Catch c G.g e.N.length G.i G.st G.sr) (hce : X.mg G.cs = some CS ∨ (X.mg G.cs = none ∧ bootBuiltins G.cs = some CS ∧ G.cs ≠ "__name__"))
    (hx : ∀ k C v, c.cls k = some C → c.gx G.g k = some v → PySem.W.exmOne X.K (.ref C) CS = some true) (hbis : ∀ x, x ∈ cf.bis → X.mg x = none) (hk : Clss X.K X.mg cf c.cls c.sub) (h1 : ∀ v, c.gok G.g = some v → v.st = true) (h2 : ∀ k v, c.gx G.g k = some v → v.st = true) :
    GuardAt X c G.g e.x := by
  obtain ⟨ga, fd, F, hm, hb, _⟩ := hl
  obtain ⟨oc, od, kV, doc, pm, an, cdv, ct, osl, rfl, lk, hcd⟩ := F.ex
  unfold chkG at h
  split at h
  · rename_i a a' p2 p1 p3 xc p4 nm bst suite p7 p8 rest hps hbody
    simp only [Bool.and_eq_true, decide_eq_true_eq] at h
    obtain ⟨⟨ea, ex, ha, hxc⟩, ⟨hi, hl, hgx, hsc⟩, hst, hsr⟩ := h
    subst ea ex
    have SC := scB_ok hsc
    rw [hps] at SC hb
    have h0 : e.N[0]? = some a' := by
      have := SC.pre
      have h1 : (e.N.take 1)[0]? = some a' := by rw [show e.N.take 1 = [a'] from this]; rfl
      rwa [List.getElem?_take_of_lt (by omega)] at h1
    have hv : Vis (defScope e.st) a' := by
      rcases SC.par a' (by simp) with k | k
      · exact .inl k
      · exact .inr (.inl k)
    have hlt : 0 < e.N.length := (List.getElem?_eq_some_iff.mp h0).1
    refine ⟨⟨ga, oc, od, _, _, _, .none, kV, doc, pm, an, cdv, ct, osl, e.N, a', ⟨hm, F.kp, lk, hcd⟩, ⟨hb, SC, h0, hv⟩, ?_, ha⟩, h1, h2⟩
    rw [hbody]
    refine gives_try C rfl SC.nd hi (of_decide_eq_true hl) hlt (of_decide_eq_true hgx) (plain1 hxc) hce hx (fun s H k D a oe pn hD hz hd => ?_) (fun s H => restB_ok hsr)
    refine okHSs (X := (cxOf C8.CX0 X.prog X.w X.K X.mg X.base e.N e.x (defScope e.st) ga cdv X.A X.stack s H C8.E0).nox.suite a ((a, oe) :: pn)) (cf := cf) (c := suiteCtx c k a) ⟨SC.nd, ?_, hbis, fun k y q => ?_, fun k' a2 e2 => ?_⟩ G.st (bst :: suite) hst
    · obtain ⟨vs, hd⟩ := hd
      exact ⟨(a, oe), ⟨rfl, vs, hd, hz.2.2 vs hd⟩, by simp⟩
    · obtain ⟨u, cv, r, m, hs⟩ := hk.ecl k y q
      exact ⟨u, cv, r, m, fun k' a D b _ hD hb => hs k' D b hD hb⟩
    · have e3 : some (k, a) = some (k', a2) := e2
      cases e3
      exact ⟨D, hD, call_isE (hk.exc k D hD) hz.zc hd⟩
  · cases h
/-! ### all of a text -/
def chkGs (cf : Cf) (es : List Ent) (Gs : List Grd) : Bool := Gs.all fun G => match es[G.g]? with
  | some e => chkG cf G e
  | none => false
def stB (PG : Prog) : Bool := PG.grd.all fun t => t.2.1.st && t.2.2.all fun o => match o with
  | some v => v.st
  | none => true
theorem lookup_in {α : Type} {k : Nat} {a : α} : ∀ {l : List (Nat × α)}, l.lookup k = some a → (k, a) ∈ l
  | [], h => by cases h
  | (j, b) :: l, h => by
    simp only [List.lookup] at h
    split at h
    · rename_i q
      cases h
      rw [beq_iff_eq] at q
      subst q
      simp
    · exact List.mem_cons_of_mem _ (lookup_in h)
theorem st_ok {PG : Prog} {call : Nat → List Val → Sto → R Val} {b : Nat} (h : stB PG = true) (g : Nat) : (∀ v, (ctxOf PG call b).gok g = some v → v.st = true) ∧ ∀ k v, (ctxOf PG call b).gx g k = some v → v.st = true := by
  unfold stB at h
  rw [List.all_eq_true] at h
  refine ⟨fun v e => ?_, fun k v e => ?_⟩
  · have e : (PG.grd.lookup g).map (fun t => t.1) = some v := e
    cases hq : PG.grd.lookup g with
    | none => rw [hq] at e; cases e
    | some t =>
      rw [hq] at e
      cases e
      have := h _ (lookup_in hq)
      simp only [Bool.and_eq_true] at this
      exact this.1
  · have e : (PG.grd.lookup g).bind (fun t => (t.2[k]?).bind id) = some v := e
    cases hq : PG.grd.lookup g with
    | none => rw [hq] at e; cases e
    | some t =>
      rw [hq] at e
      have := h _ (lookup_in hq)
      simp only [Bool.and_eq_true, List.all_eq_true] at this
      have e : (t.2[k]?).bind id = some v := e
      cases hk : t.2[k]? with
      | none => rw [hk] at e; cases e
      | some o =>
        rw [hk] at e
        have e : o = some v := e
        subst e
        exact this.2 _ (List.mem_of_getElem? hk)
/-- what a text's frame says of all its parts -/
structure Parts (K : PySem.W.Frag) (mg : Str → Option Value) (PG : Prog) (es : List Ent) (Gs : List Grd) (cf : Cf) : Prop where
  names : cf.fns = es.map (·.x)
  grds : cf.grds = Gs.map (·.g)
  chk : chkAll cf PG.fns es = true
  chkg : chkGs cf es Gs = true
  lies : AllLie K mg es
  cons : ∀ (i : Nat) (x : Str), cf.cons[i]? = some x → ∃ u, mg x = some u ∧ ∀ v, PG.con[i]? = some v → flatIs v u
  bis : ∀ x, x ∈ cf.bis → mg x = none
  adr : ∀ (f a : Nat), PG.adr[f]? = some a → ∃ x, cf.fns[f]? = some x ∧ mg x = some (.ref a)
  rais : ∀ (k : Nat) (x : Str), cf.kls[k]? = some x → ∃ C, mg x = some (.ref C) ∧ PG.cls[k]? = some C ∧ Rais K C
  catches : ∀ G ∈ Gs, ∀ e, es[G.g]? = some e → ∀ call b, Catch (ctxOf PG call b) G.g e.N.length G.i G.st G.sr
  over : ∀ G ∈ Gs, ∃ CS, (mg G.cs = some CS ∨ (mg G.cs = none ∧ bootBuiltins G.cs = some CS ∧ G.cs ≠ "__name__")) ∧ ∀ (k C : Nat), PG.cls[k]? = some C → PySem.W.exmOne K (.ref C) CS = some true
  clss : Clss K mg cf (fun k => PG.cls[k]?) (fun a b => (PG.sub[a]?).bind fun r => r[b]?)
  st : stB PG = true
theorem all_okF {P : Program} {w : World} {K : PySem.W.Frag} {mg : Str → Option Value} {base : Heap} {PG : Prog} {es : List Ent} {Gs : List Grd} {cf : Cf} (Z : Parts K mg PG es Gs cf) (htab : ∀ e ∈ es, ∀ cc p q, e.tab = some (cc, p, q) → TabB base mg cc p) :
    ∀ (k f : Nat) (e : Ent), es[f]? = some e → ∀ (fa : Addr) (fd : FuncData), Fun K e.x e.x e.st fa fd → (∀ cc p q, e.tab = some (cc, p, q) → fd.code = .ref cc) → FnOk P w K mg base (L2N.CX P w) (3 * k) fa fd e.ps (spF K (fun i => PG.cls[i]?) (callFn PG k) f)
  | 0, f, e, q, fa, fd, F, hcode => by
    refine ⟨fun vs H Q E h => ?_, fun A outer s H args us vs Q E hr h0 hb hv h => ?_⟩
    · obtain ⟨hid, ρ, S, xs, hs, rl, o⟩ := h
      exact o.elim
    · obtain ⟨hid, ρ, S, xs, hs, rl, o⟩ := h
      exact o.elim
  | k + 1, f, e, q, fa, fd, F, hcode => by
    obtain ⟨d, hd, hch⟩ := chk_get Z.chk q
    simp only [chkE, Bool.and_eq_true, decide_eq_true_eq] at hch
    obtain ⟨h1, h2, h0, h3, h4⟩ := hch
    have SC := scB_ok h3
    show FnOk P w K mg base (L2N.CX P w) (3 * k + 2 + 1) fa fd e.ps _
    refine fn_okQ F SC hd h1 h2 fun cdv A outer s H ZZ b hcd hfd hr => ?_
    refine okSs (X := cxOf (L2N.CX P w) P w K mg base e.N e.x (defScope e.st) fa cdv A outer s H ZZ) (cf := cfOf cf e) (c := ctxOf PG (callFn PG k) b) (lv := 3 * k) d.body ⟨rfl, SC.nd, ?_, hr.mono (by omega), fun g y hy => ?_, Z.cons, Z.bis, Z.adr, Z.rais, fun p q' hp => ?_, fun g y _ hg hy => ?_⟩ SC.kind (fun _ => rfl) (passes_of rfl) (L2N.takes_of rfl rfl rfl rfl) h4
    · have := hr.un
      show (A.deeper _).units + 65 < cLine
      omega
    · have hy : cf.fns[g]? = some y := hy
      rw [Z.names, List.getElem?_map] at hy
      cases he : es[g]? with
      | none => rw [he] at hy; cases hy
      | some e2 =>
        rw [he] at hy
        cases hy
        obtain ⟨fa2, fd2, F2, m2, b2, c2⟩ := lie_get Z.lies he
        exact ⟨fa2, fd2, e2.ps, all_okF Z htab k g e2 he fa2 fd2 F2 c2, m2, F2.kp, b2⟩
    · have hp : e.tab.map (fun t => t.2) = some (p, q') := hp
      cases ht : e.tab with
      | none => rw [ht] at hp; cases hp
      | some t =>
        obtain ⟨cc, p2, q2⟩ := t
        rw [ht] at hp
        cases hp
        refine ⟨hr, ⟨cc, ?_, htab e (List.mem_of_getElem? q) cc p q' ht⟩, ?_⟩
        · have := hcode cc p q' ht
          rw [hfd] at this
          exact this
        · unfold tabB at h0
          rw [ht] at h0
          exact of_decide_eq_true h0
    · have hg : g ∈ cf.grds := hg
      rw [Z.grds] at hg
      obtain ⟨G, hG, eG⟩ := List.mem_map.mp hg
      subst eG
      have hy : cf.fns[G.g]? = some y := hy
      rw [Z.names, List.getElem?_map] at hy
      cases he : es[G.g]? with
      | none => rw [he] at hy; cases hy
      | some e2 =>
        rw [he] at hy
        cases hy
        have hcg : chkG cf G e2 = true := by
          have := List.all_eq_true.mp Z.chkg G hG
          rw [he] at this
          exact this
        obtain ⟨CS, hce, hx⟩ := Z.over G hG
        exact guard_mk (cf := cf) hcg (lie_get Z.lies he) (Z.catches G hG e2 he _ _) hce (fun k C v hC _ => hx k C hC) Z.bis Z.clss (st_ok Z.st G.g).1 (st_ok Z.st G.g).2
end QE

set_option Elab.async false
set_option linter.all false
set_option maxRecDepth 10000
set_option maxHeartbeats 1000000
/-! A law's own end, its defs' tables of code objects among the cells. -/
namespace QE
open PySem PySem.Spec PyProof.Rows L2 LamX
def intVs (ns : List Int) : List Val := ns.map .int
theorem rep_ints {K : PySem.W.Frag} {hid ρ : List Addr} {H : Hp} : ∀ ns : List Int, RepL K hid ρ H (QE.intVs ns) (ns.map V.int)
  | [] => .nil
  | n :: ns => .cons ⟨rfl, .of_int⟩ (rep_ints ns)
/-- the law's answer is True -/
def Told (r : R Val) : Prop := ∃ S, r = .ok (.bl true) S
/-- the tables of the text's defs -/
def tabsE (es : List Ent) : List (Nat × Nat × List Nat) := es.filterMap fun e => e.tab
def stoE (es : List Ent) : Sto := (tabsE es).map fun t => .tbl t.2.1 t.2.2
def csE (es : List Ent) : List (Addr × Addr) := (tabsE es).map fun t => (t.1, t.2.1)
theorem law_spec {PG : Prog} {es : List Ent} {cls : Nat → Option Nat} {k f : Nat} (h : ∀ ns : List Int, ns.length ≤ 63 → Told (callFn PG k f [.lst false (QE.intVs ns)] (stoE es)) ∧ Told (callFn PG k f [.kls ns] (stoE es))) (nd : ((csE es).map (·.2)).Nodup)
    (K : PySem.W.Frag) (H : Hp) (a : Addr) (ns : List Int) (hn : ns.length ≤ 63) (hT : ∀ p ∈ csE es, H p.2 = some (.tbl #[])) (hS : SqL K H a (ns.map V.int)) :
    spF K cls (callFn PG k) f [.ref a] H (fun v _ => v = .bl true) fun _ _ _ => False := by
  have ht : ∀ p ∈ (csE es).map (·.2), H p = some (.tbl #[]) := fun p hp => by
    obtain ⟨x, hx, e⟩ := List.mem_map.mp hp
    rw [← e]
    exact hT x hx
  have s0 : SOk K [] ((csE es).map (·.2)) H (stoE es) := by
    refine ⟨by simp [csE, stoE], nd, by simp, by simp, fun n o q => ?_⟩
    unfold stoE at q
    rw [List.getElem?_map] at q
    cases hq : (tabsE es)[n]? with
    | none => rw [hq] at q; cases q
    | some t =>
      rw [hq] at q
      cases q
      have hm : ((csE es).map (·.2))[n]? = some t.2.1 := by simp [csE, hq]
      refine ⟨t.2.1, hm, rfl, #[], ht _ (List.mem_of_getElem? hm), True.intro, fun pos cv hc => ?_⟩
      have z : codeAmong pos [] = some cv := hc
      simp [codeAmong] at z
  obtain ⟨⟨S1, e1⟩, ⟨S2, e2⟩⟩ := h ns hn
  rcases hS with hS | hS
  · refine ⟨[], _, stoE es, [.lst false (QE.intVs ns)], s0, .cons ⟨rfl, ?_⟩ .nil, ?_⟩
    · simp only [Rep]
      refine ⟨a, _, rfl, hS, fun z => ?_, by simp, rep_ints ns⟩
      have := ht a z
      rcases hS with hS | ⟨o, hS⟩ <;> (rw [this] at hS; cases hS)
    · rw [e1]
      exact fun ρ' H' e s u ru fu => ru.bl_
  · refine ⟨[], _, stoE es, [.kls ns], s0, .cons ⟨rfl, ?_⟩ .nil, ?_⟩
    · simp only [Rep]
      exact ⟨a, rfl, hS⟩
    · rw [e2]
      exact fun ρ' H' e s u ru fu => ru.bl_
/-- the written part without some addresses -/
def noTab (ps : List Nat) (K : PySem.W.Frag) : PySem.W.Frag := K.filter fun q => !ps.contains q.1
theorem noTab_get {ps : List Nat} {a : Addr} {o : Obj} : ∀ {K : PySem.W.Frag}, (noTab ps K).lookup a = some o → K.lookup a = some o ∧ ps.contains a = false
  | [], h => by cases h
  | (b, u) :: K, h => by
    unfold noTab at h
    rw [List.filter_cons] at h
    split at h
    · rename_i hb
      cases hq : (a == b) with
      | true =>
        simp only [List.lookup, hq] at h ⊢
        cases h
        rw [beq_iff_eq] at hq
        subst hq
        exact ⟨rfl, by simpa using hb⟩
      | false =>
        simp only [List.lookup, hq] at h ⊢
        exact noTab_get (ps := ps) (K := K) h
    · rename_i hb
      obtain ⟨h1, h2⟩ := noTab_get (ps := ps) (K := K) h
      have ne : (a == b) = false := by
        apply Bool.eq_false_iff.mpr
        intro z
        rw [beq_iff_eq] at z
        subst z
        rw [h2] at hb
        exact hb rfl
      simp only [List.lookup, ne]
      exact ⟨h1, h2⟩
theorem noTab_in {ps : List Nat} {K : PySem.W.Frag} {h : Heap} (X : K.In h) : (noTab ps K).In h := fun a o e => X a o (noTab_get e).1
theorem noTab_none {ps : List Nat} {K : PySem.W.Frag} {p : Nat} (h : ps.contains p = true) : (noTab ps K).lookup p = none := by
  cases e : (noTab ps K).lookup p with
  | none => rfl
  | some o =>
    have := (noTab_get e).2
    rw [h] at this
    cases this
theorem lie_mk {K : PySem.W.Frag} {h : Heap} {mg : Str → Option Value} {x : Str} {st : Stmt} {N ps : List Str} {tab : Option (Nat × Nat × List Nat)} {f : Addr} {od an : Option Addr} {sl : Array (Option Value)} {oc kV dc pm cd ct : Value} (X : K.In h) (G : h.Ns mainGlobals mg)
    (a : PySem.W.nsIn K mainGlobals x = some (some (.ref f))) (l : K.lookup f = some ⟨oc, od, .func (PySem.W.fnOf x x (defArgs st) (defBody st) (defScope st) .none kV dc pm an cd ct), sl⟩) (c : PySem.W.codeIn K cd x = true) (k : PySem.W.keepIn K (.ref f) = true)
    (hb : ∀ (kV doc pm : Value) (an : Option Addr) (cdv ct : Value) (us : List Value), us.length = ps.length → bindArgs (PySem.W.fnOf x x (defArgs st) (defBody st) (defScope st) .none kV doc pm an cdv ct) ⟨us, []⟩ = pure (ps.zip us))
    (ht : ∀ cc p q, tab = some (cc, p, q) → cd = .ref cc) : Lies K mg ⟨x, st, N, ps, tab⟩ := by
  have F := fun_mk (st := st) l c k
  exact ⟨f, _, F, PySem.W.mg_of X G a, F.binds hb, ht⟩
theorem fin_mk {l : PySem.W.OpenLaw} {w : World} {K : PySem.W.Frag} {mg : Str → Option Value} {h : Heap} {PG : Prog} {es : List Ent} {Gs : List Grd} {cf : Cf} {k f : Nat} {e : Ent} {fa : Addr} (hmg : mg "law" = some (.ref fa)) (Z : Parts K mg PG es Gs cf)
    (q : es[f]? = some e) (ex : e.x = "law") (ep : e.ps = [PySem.Str.ofString "script"])
    (hb : ∀ (kV doc pm : Value) (an : Option Addr) (cdv ct v : Value), bindArgs (PySem.W.fnOf e.x e.x (defArgs e.st) (defBody e.st) (defScope e.st) .none kV doc pm an cdv ct) ⟨[v], []⟩ = pure [(PySem.Str.ofString "script", v)])
    (told : ∀ ns : List Int, ns.length ≤ 63 → Told (callFn PG k f [.lst false (QE.intVs ns)] (stoE es)) ∧ Told (callFn PG k f [.kls ns] (stoE es))) (nd : ((csE es).map (·.2)).Nodup)
    (hT : ∀ p ∈ csE es, h.get? p.2 = some { cls := .none, data := .fields #[] }) (nT : ∀ p ∈ csE es, K.lookup p.2 = none) (hC : ∀ p ∈ csE es, PySem.W.CodeHd h p.1 p.2) :
    LawAtS l w K (L2N.CX l.prog w) (3 * k) 63 "script" mg fa h := by
  obtain ⟨fa', fd, F, hm, b, hc⟩ := lie_get Z.lies q
  have hh := hm
  rw [ex, hmg] at hh
  cases hh
  refine ⟨fd, csE es, spF K (fun i => PG.cls[i]?) (callFn PG k) f, hT, nT, hC, fun s v => ?_, fun H a ns hn _ hH hS => law_spec told nd K H a ns hn hH hS, fun base _ _ hB => ?_⟩
  · obtain ⟨oc, od, kV, doc, pm, an, cdv, ct, osl, rfl, lk, hcd⟩ := F.ex
    exact .of_eq (hb kV doc pm an cdv ct v)
  · have := all_okF (P := l.prog) (w := w) (base := base) Z (fun e' he' cc p q' ht => hB (cc, p) (List.mem_map.mpr ⟨(cc, p, q'), List.mem_filterMap.mpr ⟨e', he', ht⟩, rfl⟩)) k f e q fa fd F hc
    rw [ep] at this
    exact this
end QE

set_option Elab.async false
set_option linter.all false
set_option maxRecDepth 10000
set_option maxHeartbeats 1000000
/-! The parts of a text, told one by one. -/
namespace QE
open PySem PySem.Spec PyProof.Rows L2 LamX
/-- what the frame tells of a class of exceptions -/
structure ClsF (K : PySem.W.Frag) (C : Addr) : Prop where
  exc : PySem.W.excIn K C [.type "ValueError", .type "Exception", .type "BaseException", .type "object"] "ValueError.__new__" = true
  kp : PySem.W.keepIn K (.ref C) = true
  sub : PySem.W.subIn K (.ref C) (.type "BaseException") = some true
  ty : PySem.W.typeIn K (.ref C) = some (.type "type")
  ic : PySem.W.isClsIn K C = true
  hg : PySem.W.findIn K (.ref C) "__getattribute__" = some (some (.builtin "BaseException.__getattribute__"))
  hk : PySem.W.findIn K (.ref C) "__getattr__" = some none
  hd : PySem.W.hasDictIn K C = true
  ha : PySem.W.findIn K (.ref C) "__class__" = some (some (.builtin "object.__class__"))
  hm : PySem.W.mroIn K C (.type "object") = some true
variable {K : PySem.W.Frag} {mg : Str → Option Value}
theorem ClsF.rais {C : Addr} (F : ClsF K C) : Rais K C := ⟨⟨_, _, _, _, PySem.F.excBase_ValueError, F.exc⟩, F.kp, F.sub, F.ty⟩
theorem ClsF.excC {C : Addr} (F : ClsF K C) (hn : PySem.W.specialIn K (.builtin "object.__class__") "__get__" = some (some (.builtin "getset_descriptor.__get__"))) (ht : PySem.W.takesIn K (.builtin "object.__class__") = some true) : ExcC K C :=
  ⟨F.hg, F.hk, F.sub, F.hd, F.ha, hn, ht, F.hm⟩
theorem kitCls_ {D E : Addr} {b : Bool} (F : ClsF K E) (h : PySem.W.subIn K (.ref D) (.ref E) = some b) : PySem.W.kitCls K (.ref D) (.ref E) = some b := by
  have e2 : ((PySem.W.clsIn K E).isSome && PySem.W.typeIn K (.ref E) == some (.type "type")) = true := by
    have h2' : (PySem.W.clsIn K E).isSome = true := F.ic
    rw [h2', F.ty] <;> rfl
  show (if ((PySem.W.clsIn K E).isSome && PySem.W.typeIn K (.ref E) == some (.type "type")) = true then PySem.W.subIn K (.ref D) (.ref E) else none) = some b
  rw [if_pos e2]
  exact h
theorem exm_mk {D E : Addr} (F : ClsF K E) (h : PySem.W.subIn K (.ref D) (.ref E) = some true) : PySem.W.exmOne K (.ref D) (.ref E) = some true := by
  have e1 : (PySem.W.subIn K (.ref E) (.type "BaseException") == some true) = true := by rw [F.sub] <;> rfl
  show (if (PySem.W.subIn K (.ref E) (.type "BaseException") == some true) = true then PySem.W.kitCls K (.ref D) (.ref E) else none) = some true
  rw [if_pos e1]
  exact kitCls_ F h
theorem kit_mk {D E : Addr} {b : Bool} (F : ClsF K E) (h : PySem.W.subIn K (.ref D) (.ref E) = some b) (ne : (if D = E then b else true) = true) : PySem.W.kitOne K (.ref D) (.ref E) = some b := by
  unfold PySem.W.kitOne
  split at ne
  · rename_i e
    subst e
    subst ne
    split
    · rfl
    · exact kitCls_ F h
  · rename_i n
    rw [if_neg]
    · exact kitCls_ F h
    · intro z
      rw [beq_iff_eq] at z
      cases z
      exact n rfl
/-- the defs' places -/
def AdrAt (mg : Str → Option Value) : List Str → List Nat → Prop
  | _, [] => True
  | x :: xs, a :: as => mg x = some (.ref a) ∧ AdrAt mg xs as
  | [], _ :: _ => False
theorem adr_of : ∀ {fns : List Str} {as : List Nat}, AdrAt mg fns as → ∀ (f a : Nat), as[f]? = some a → ∃ x, fns[f]? = some x ∧ mg x = some (.ref a)
  | _, [], _, f, a, h => by simp at h
  | [], _ :: _, z, _, _, _ => z.elim
  | x :: xs, b :: as, z, 0, a, h => by
    simp at h
    subst h
    exact ⟨x, rfl, z.1⟩
  | x :: xs, b :: as, z, f + 1, a, h => by simpa using adr_of z.2 f a (by simpa using h)
def RaisAt (K : PySem.W.Frag) (mg : Str → Option Value) : List Str → List Nat → Prop
  | [], [] => True
  | x :: xs, C :: Cs => (mg x = some (.ref C) ∧ ClsF K C) ∧ RaisAt K mg xs Cs
  | _, _ => False
theorem rais_of : ∀ {kls : List Str} {cls : List Nat}, RaisAt K mg kls cls → ∀ (k : Nat) (x : Str), kls[k]? = some x → ∃ C, mg x = some (.ref C) ∧ cls[k]? = some C ∧ Rais K C
  | [], _, _, k, x, h => by simp at h
  | _ :: _, [], z, _, _, _ => z.elim
  | y :: ys, C :: Cs, z, 0, x, h => by
    simp at h
    subst h
    exact ⟨C, z.1.1, rfl, z.1.2.rais⟩
  | y :: ys, C :: Cs, z, k + 1, x, h => by simpa using rais_of z.2 k x (by simpa using h)
theorem clsF_of : ∀ {kls : List Str} {cls : List Nat}, RaisAt K mg kls cls → ∀ (k C : Nat), cls[k]? = some C → ClsF K C
  | _, [], _, k, C, h => by simp at h
  | [], _ :: _, z, _, _, _ => z.elim
  | y :: ys, C :: Cs, z, 0, D, h => by
    simp at h
    subst h
    exact z.1.2
  | y :: ys, C :: Cs, z, k + 1, D, h => clsF_of z.2 k D (by simpa using h)
/-- which classes lie below E: column k -/
def SubCol (K : PySem.W.Frag) (E k : Nat) : List Nat → List (List Bool) → Prop
  | [], _ => True
  | D :: Ds, r :: rs => (∃ b, r[k]? = some b ∧ PySem.W.subIn K (.ref D) (.ref E) = some b ∧ (if D = E then b else true) = true) ∧ SubCol K E k Ds rs
  | _ :: _, [] => False
theorem subCol_of {E k : Nat} (F : ClsF K E) : ∀ {cls : List Nat} {sub : List (List Bool)}, SubCol K E k cls sub → ∀ (k' D : Nat) (b : Bool), cls[k']? = some D → ((sub[k']?).bind fun r => r[k]?) = some b → PySem.W.kitOne K (.ref D) (.ref E) = some b
  | [], _, _, _, _, _, h, _ => by simp at h
  | _ :: _, [], z, _, _, _, _, _ => z.elim
  | D :: Ds, r :: rs, z, 0, D', b, h, h2 => by
    simp at h h2
    subst h
    obtain ⟨b', e, h3, h4⟩ := z.1
    rw [e] at h2
    cases h2
    exact kit_mk F h3 h4
  | D :: Ds, r :: rs, z, k' + 1, D', b, h, h2 => subCol_of F z.2 k' D' b (by simpa using h) (by simpa using h2)
def EclAt (K : PySem.W.Frag) (mg : Str → Option Value) (cls : List Nat) (sub : List (List Bool)) : Nat → List Str → Prop
  | _, [] => True
  | k, y :: ys => (∃ E, mg y = some (.ref E) ∧ ClsF K E ∧ SubCol K E k cls sub) ∧ EclAt K mg cls sub (k + 1) ys
theorem ecl_of {cls : List Nat} {sub : List (List Bool)} : ∀ {ys : List Str} {n : Nat}, EclAt K mg cls sub n ys → ∀ (k : Nat) (y : Str), ys[k]? = some y → ∃ E, mg y = some (.ref E) ∧ ClsF K E ∧ SubCol K E (n + k) cls sub
  | [], _, _, k, y, h => by simp at h
  | x :: ys, n, z, 0, y, h => by
    simp at h
    subst h
    exact z.1
  | x :: ys, n, z, k + 1, y, h => by
    have := ecl_of z.2 k y (by simpa using h)
    rw [show n + 1 + k = n + (k + 1) by omega] at this
    exact this
/-- every class lies below E -/
def AllSub (K : PySem.W.Frag) (E : Nat) : List Nat → Prop
  | [] => True
  | D :: Ds => PySem.W.subIn K (.ref D) (.ref E) = some true ∧ AllSub K E Ds
theorem allSub_of {E : Nat} (F : ClsF K E) : ∀ {cls : List Nat}, AllSub K E cls → ∀ (k C : Nat), cls[k]? = some C → PySem.W.exmOne K (.ref C) (.ref E) = some true
  | [], _, _, _, h => by simp at h
  | D :: Ds, z, 0, C, h => by
    simp at h
    subst h
    exact exm_mk F z.1
  | D :: Ds, z, k + 1, C, h => allSub_of F z.2 k C (by simpa using h)
def OverAt (K : PySem.W.Frag) (mg : Str → Option Value) (cls : List Nat) : List Grd → Prop
  | [] => True
  | G :: Gs => (∃ E, mg G.cs = some (.ref E) ∧ ClsF K E ∧ AllSub K E cls) ∧ OverAt K mg cls Gs
theorem over_of {cls : List Nat} : ∀ {Gs : List Grd}, OverAt K mg cls Gs → ∀ G ∈ Gs, ∃ CS, (mg G.cs = some CS ∨ (mg G.cs = none ∧ bootBuiltins G.cs = some CS ∧ G.cs ≠ "__name__")) ∧ ∀ (k C : Nat), cls[k]? = some C → PySem.W.exmOne K (.ref C) CS = some true
  | [], _, G, h => by simp at h
  | G' :: Gs, z, G, h => by
    rcases List.mem_cons.mp h with rfl | h
    · obtain ⟨E, hm, F, hs⟩ := z.1
      exact ⟨_, .inl hm, allSub_of F hs⟩
    · exact over_of z.2 G h
theorem clss_mk {cf : Cf} {kls : List Str} {cls : List Nat} {sub : List (List Bool)} (h1 : RaisAt K mg kls cls) (h2 : EclAt K mg cls sub 0 cf.ecl) (hn : PySem.W.specialIn K (.builtin "object.__class__") "__get__" = some (some (.builtin "getset_descriptor.__get__"))) (ht : PySem.W.takesIn K (.builtin "object.__class__") = some true) :
    Clss K mg cf (fun k => cls[k]?) (fun a b => (sub[a]?).bind fun r => r[b]?) := by
  refine ⟨fun k y q => ?_, fun k D h => (clsF_of h1 k D h).excC hn ht⟩
  obtain ⟨E, hm, F, hs⟩ := ecl_of h2 k y q
  rw [Nat.zero_add] at hs
  exact ⟨.ref E, .ref E, ⟨rfl, fun w hw => hw⟩, .inl hm, fun k' D b h3 h4 => subCol_of F hs k' D b h3 h4⟩
/-- the constants -/
def ConAt (mg : Str → Option Value) : List Str → List Val → Prop
  | [], _ => True
  | x :: xs, vs => (∃ u, mg x = some u ∧ ∀ v, vs.head? = some v → flatIs v u) ∧ ConAt mg xs vs.tail
theorem con_of : ∀ {xs : List Str} {vs : List Val}, ConAt mg xs vs → ∀ (i : Nat) (x : Str), xs[i]? = some x → ∃ u, mg x = some u ∧ ∀ v, vs[i]? = some v → flatIs v u
  | [], _, _, _, _, h => by simp at h
  | y :: ys, vs, z, 0, x, h => by
    simp at h
    subst h
    obtain ⟨u, h1, h2⟩ := z.1
    exact ⟨u, h1, fun v hv => h2 v (by rw [List.head?_eq_getElem?]; exact hv)⟩
  | y :: ys, vs, z, i + 1, x, h => by
    obtain ⟨u, h1, h2⟩ := con_of z.2 i x (by simpa using h)
    exact ⟨u, h1, fun v hv => h2 v (by cases vs <;> simpa using hv)⟩
theorem con_mk {h : Heap} {x : Str} {vs : List Val} {u : Value} (c : Val) (X : K.In h) (G : h.Ns mainGlobals mg) (a : PySem.W.nsIn K mainGlobals x = some (some u)) (hc : vs.head? = some c) (q : flatIs c u) : ∃ u, mg x = some u ∧ ∀ v, vs.head? = some v → flatIs v u := ⟨u, PySem.W.mg_of X G a, fun v hv => by rw [hc] at hv; cases hv; exact q⟩
def NonAt (mg : Str → Option Value) : List Str → Prop
  | [] => True
  | x :: xs => mg x = none ∧ NonAt mg xs
theorem non_of : ∀ {xs : List Str}, NonAt mg xs → ∀ x, x ∈ xs → mg x = none
  | [], _, _, h => by simp at h
  | y :: ys, z, x, h => by
    rcases List.mem_cons.mp h with rfl | h
    · exact z.1
    · exact non_of z.2 x h
/-- the code objects, their tables -/
def CsAt (K : PySem.W.Frag) : List (Addr × Addr) → Prop
  | [] => True
  | p :: r => (K.lookup p.2 = none ∧ PySem.W.codeHdIn K p.1 p.2 = true) ∧ CsAt K r
theorem cs_of : ∀ {cs : List (Addr × Addr)}, CsAt K cs → ∀ p ∈ cs, K.lookup p.2 = none ∧ PySem.W.codeHdIn K p.1 p.2 = true
  | [], _, _, h => by simp at h
  | q :: r, z, p, h => by
    rcases List.mem_cons.mp h with rfl | h
    · exact z.1
    · exact cs_of z.2 p h
theorem fin_all {l : PySem.W.OpenLaw} {w : World} {h : Heap} {PG : Prog} {es : List Ent} {Gs : List Grd} {cf : Cf} {k f : Nat} {e : Ent} {fa : Addr} {ts : List Addr} {st0 : Sto} (X : K.In h) (hmg : mg "law" = some (.ref fa))
    (names : cf.fns = es.map (·.x)) (grds : cf.grds = Gs.map (·.g)) (chk : chkAll cf PG.fns es = true) (chkg : chkGs cf es Gs = true) (stb : stB PG = true) (catches : ∀ G ∈ Gs, ∀ e, es[G.g]? = some e → ∀ call b, Catch (ctxOf PG call b) G.g e.N.length G.i G.st G.sr)
    (lies : AllLie K mg es) (cons : ConAt mg cf.cons PG.con) (bis : NonAt mg cf.bis) (adr : AdrAt mg cf.fns PG.adr) (rais : RaisAt K mg cf.kls PG.cls) (over : OverAt K mg PG.cls Gs) (ecl : EclAt K mg PG.cls PG.sub 0 cf.ecl)
    (hn : PySem.W.specialIn K (.builtin "object.__class__") "__get__" = some (some (.builtin "getset_descriptor.__get__"))) (ht : PySem.W.takesIn K (.builtin "object.__class__") = some true)
    (q : es[f]? = some e) (ex : e.x = "law") (ep : e.ps = [PySem.Str.ofString "script"])
    (hb : ∀ (kV doc pm : Value) (an : Option Addr) (cdv ct v : Value), bindArgs (PySem.W.fnOf e.x e.x (defArgs e.st) (defBody e.st) (defScope e.st) .none kV doc pm an cdv ct) ⟨[v], []⟩ = pure [(PySem.Str.ofString "script", v)])
    (hst : stoE es = st0) (told : ∀ ns : List Int, ns.length ≤ 63 → Told (callFn PG k f [.lst false (QE.intVs ns)] st0) ∧ Told (callFn PG k f [.kls ns] st0)) (nd : ((csE es).map (·.2)).Nodup)
    (hts : ∀ p ∈ csE es, p.2 ∈ ts) (hT : ∀ P ∈ ts, h.get? P = some (PySem.W.tabObj #[])) (cs : CsAt K (csE es)) :
    LawAtS l w K (L2N.CX l.prog w) (3 * k) 63 "script" mg fa h := by
  subst hst
  refine fin_mk hmg ⟨names, grds, chk, chkg, lies, con_of cons, non_of bis, adr_of adr, rais_of rais, catches, over_of over, clss_mk rais ecl hn ht, stb⟩ q ex ep hb told nd (fun p hp => hT p.2 (hts p hp)) (fun p hp => (cs_of cs p hp).1) (fun p hp => PySem.W.codeHd_of_K X (cs_of cs p hp).2)
theorem clsF_at {C : Addr} {h : Heap} (X : K.In h) (a : PySem.W.excIn K C [.type "ValueError", .type "Exception", .type "BaseException", .type "object"] "ValueError.__new__" = true) (b : PySem.W.keepIn K (.ref C) = true) (c : PySem.W.subIn K (.ref C) (.type "BaseException") = some true)
    (d : PySem.W.typeIn K (.ref C) = some (.type "type")) (e : PySem.W.isClsIn K C = true) (f : PySem.W.findIn K (.ref C) "__getattribute__" = some (some (.builtin "BaseException.__getattribute__"))) (g : PySem.W.findIn K (.ref C) "__getattr__" = some none)
    (i : PySem.W.hasDictIn K C = true) (j : PySem.W.findIn K (.ref C) "__class__" = some (some (.builtin "object.__class__"))) (k : PySem.W.mroIn K C (.type "object") = some true) : ClsF K C := ⟨a, b, c, d, e, f, g, i, j, k⟩
theorem cx_no {P : Program} {w : World} {H : Hp} {s s' : Shared} {e : Value} (z : L2N.CX P w [] H s (fun _ _ _ => False) e s') : False := by
  obtain ⟨_, _, _, _, _, _, _, _, _, _, _, z⟩ := z
  exact z.2
end QE

set_option linter.all false
set_option maxRecDepth 10000
namespace K68
open QE
def adrs : List Nat := [70, 77, 84, 89, 96, 101, 106, 111, 116, 123, 130, 137, 144, 151, 158, 165, 172, 179, 186, 191, 198, 203, 210, 217, 224, 229, 234, 239, 244, 249]
def clss : List Nat := [24, 37, 49, 61]
def grds : List (Nat × Val × List (Option Val)) := []
-- the addresses: adr_ of defs and classes, tc_ and tp_ of code objects and tables are given ahead
/-- is_whole: 0 value -/
def d_is_whole : Def := ⟨1, 1, [(.ret (.and [(.isi .int (.var 0)), (.not (.isi .bool (.var 0)))]))]⟩
/-- fits_whole: 0 value 1 low 2 high -/
def d_fits_whole : Def := ⟨3, 3, [(.ret (.and [(.call 0 [(.var 0)]), (.chain .le .le (.var 1) (.var 0) (.var 2))]))]⟩
/-- is_tuple_of: 0 value 1 least 2 most -/
def d_is_tuple_of : Def := ⟨3, 3, [(.ret (.and [(.isi .tuple (.var 0)), (.chain .le .le (.var 1) (.bi .len [(.var 0)]) (.var 2))]))]⟩
/-- fits_wants: 0 value 1 row 2 one -/
def d_fits_wants : Def := ⟨1, 3, [(.if_ (.or [(.not (.call 2 [(.var 0), (.lit (.int 1)), (.con 0)])), (.not (.bi .all [(.comp [1] (.name 1) (.it (.var 0)) [] (.call 2 [(.var 1), (.lit (.int 1)), (.con 1)]))]))]) [(.ret (.lit (.bl false)))] []), (.if_ (.not (.bi .all [(.comp [1] (.name 1) (.it (.var 0)) [] (.cmp .eq (.bi .len [(.var 1)]) (.bi .len [(.idx (.var 0) (.lit (.int 0)))])))])) [(.ret (.lit (.bl false)))] []), (.ret (.bi .all [(.comp [1] (.name 1) (.it (.var 0)) [] (.bi .all [(.comp [2] (.name 2) (.it (.var 1)) [] (.call 1 [(.var 2), (.lit (.int 0)), (.con 2)]))]))]))]⟩
/-- need_wants: 0 value -/
def d_need_wants : Def := ⟨1, 1, [(.if_ (.not (.call 3 [(.var 0)])) [(.raise_ 1)] [])]⟩
/-- column: 0 wants 1 piece 2 row -/
def d_column : Def := ⟨2, 3, [(.ret (.comp [2] (.name 2) (.it (.var 0)) [] (.idx (.var 2) (.var 1))))]⟩
/-- greatest_load: 0 wants 1 row 2 piece -/
def d_greatest_load : Def := ⟨1, 3, [(.ret (.bi .maxL [(.bin .add (.comp [1] (.name 1) (.it (.var 0)) [] (.bi .sum [(.var 1)])) (.comp [2] (.name 2) (.rng1 (.bi .len [(.idx (.var 0) (.lit (.int 0)))])) [] (.bi .sum [(.call 5 [(.var 0), (.var 2)])])))]))]⟩
/-- fits_table: 0 wants 1 value 2 day 3 lent 4 scholar 5 had 6 one 7 piece -/
def d_fits_table : Def := ⟨2, 8, [(.if_ (.or [(.not (.isi .tuple (.var 1))), (.not (.bi .all [(.comp [2] (.name 2) (.it (.var 1)) [] (.call 2 [(.var 2), (.bi .len [(.var 0)]), (.bi .len [(.var 0)])]))]))]) [(.ret (.lit (.bl false)))] []), (.for_ (.name 2) (.it (.var 1)) [(.if_ (.not (.bi .all [(.comp [6] (.name 6) (.it (.var 2)) [] (.or [(.cmp .is_ (.var 6) (.lit .non)), (.call 1 [(.var 6), (.lit (.int 0)), (.bin .sub (.bi .len [(.idx (.var 0) (.lit (.int 0)))]) (.lit (.int 1)))])]))])) [(.ret (.lit (.bl false)))] []), (.asg (.name 3) (.comp [6] (.name 6) (.it (.var 2)) [(.cmp .isn (.var 6) (.lit .non))] (.var 6))), (.if_ (.not (.bi .all [(.comp [6] (.name 6) (.it (.var 3)) [] (.cmp .eq (.meth .count (.var 3) (.var 6)) (.lit (.int 1))))])) [(.ret (.lit (.bl false)))] [])]), (.for_ (.name 4) (.rng1 (.bi .len [(.var 0)])) [(.asg (.name 5) (.comp [2] (.name 2) (.it (.var 1)) [] (.idx (.var 2) (.var 4)))), (.if_ (.not (.bi .all [(.comp [7] (.name 7) (.rng1 (.bi .len [(.idx (.var 0) (.lit (.int 0)))])) [] (.cmp .eq (.meth .count (.var 5) (.var 7)) (.idx (.idx (.var 0) (.var 4)) (.var 7))))])) [(.ret (.lit (.bl false)))] [])]), (.ret (.lit (.bl true)))]⟩
/-- padded: 0 wants 1 scholars 2 pieces 3 load 4 size 5 square 6 scholar 7 piece 8 at -/
def d_padded : Def := ⟨1, 9, [(.par [1, 2, 3] [(.bi .len [(.var 0)]), (.bi .len [(.idx (.var 0) (.lit (.int 0)))]), (.call 6 [(.var 0)])]), (.asg (.name 4) (.bin .add (.var 1) (.var 2))), (.asg (.name 5) (.comp [8] (.name 8) (.rng1 (.var 4)) [] (.cell (.bin .mul (.list [(.lit (.int 0))]) (.var 4))))), (.for_ (.name 6) (.rng1 (.var 1)) [(.for_ (.name 7) (.rng1 (.var 2)) [(.setIx (.idx (.var 5) (.var 6)) (.var 7) (.idx (.idx (.var 0) (.var 6)) (.var 7))), (.setIx (.idx (.var 5) (.bin .add (.var 1) (.var 7))) (.bin .add (.var 2) (.var 6)) (.idx (.idx (.var 0) (.var 6)) (.var 7)))]), (.setIx (.idx (.var 5) (.var 6)) (.bin .add (.var 2) (.var 6)) (.bin .sub (.var 3) (.bi .sum [(.idx (.var 0) (.var 6))])))]), (.for_ (.name 7) (.rng1 (.var 2)) [(.setIx (.idx (.var 5) (.bin .add (.var 1) (.var 7))) (.var 7) (.bin .sub (.var 3) (.bi .sum [(.call 5 [(.var 0), (.var 7)])])))]), (.ret (.var 5))]⟩
/-- step: 0 square 1 row 2 seen 3 match 4 at -/
def d_step : Def := ⟨4, 5, [(.for_ (.name 4) (.rng1 (.bi .len [(.var 0)])) [(.if_ (.and [(.cmp .gt (.idx (.idx (.var 0) (.var 1)) (.var 4)) (.lit (.int 0))), (.cmp .nin (.var 4) (.var 2))]) [(.expr (.append (.var 2) (.var 4))), (.if_ (.or [(.cmp .nin (.var 4) (.var 3)), (.call 9 [(.var 0), (.idx (.var 3) (.var 4)), (.var 2), (.var 3)])]) [(.setIx (.var 3) (.var 4) (.var 1)), (.ret (.lit (.bl true)))] [])] [])]), (.ret (.lit (.bl false)))]⟩
/-- matching: 0 square 1 match 2 row -/
def d_matching : Def := ⟨1, 3, [(.asg (.name 1) (.cell (.dnew false))), (.for_ (.name 2) (.rng1 (.bi .len [(.var 0)])) [(.xcall (.call 9 [(.var 0), (.var 2), (.cell (.list [])), (.var 1)]))]), (.ret (.var 1))]⟩
/-- days_in: 0 wants 1 square 2 found 3 day 4 match 5 row 6 at -/
def d_days_in : Def := ⟨1, 7, [(.par [1, 2] [(.call 8 [(.var 0)]), (.cell (.list []))]), (.for_ (.name 3) (.rng1 (.call 6 [(.var 0)])) [(.asg (.name 4) (.call 10 [(.var 1)])), (.asg (.name 5) (.cell (.bin .mul (.list [(.lit .non)]) (.bi .len [(.var 0)])))), (.forD (.name 6) 4 [(.augIx (.idx (.var 1) (.idx (.var 4) (.var 6))) (.var 6) .sub (.lit (.int 1))), (.if_ (.and [(.cmp .lt (.idx (.var 4) (.var 6)) (.bi .len [(.var 0)])), (.cmp .lt (.var 6) (.bi .len [(.idx (.var 0) (.lit (.int 0)))]))]) [(.setIx (.var 5) (.idx (.var 4) (.var 6)) (.var 6))] [])]), (.expr (.append (.var 2) (.bi .ptuple [(.var 5)])))]), (.ret (.var 2))]⟩
/-- fits_bar: 0 wants 1 number 2 value 3 many 4 load -/
def d_fits_bar : Def := ⟨3, 5, [(.if_ (.or [(.not (.call 2 [(.var 2), (.lit (.int 2)), (.lit (.int 2))])), (.not (.isi .str (.idx (.var 2) (.lit (.int 0))))), (.cmp .nin (.idx (.var 2) (.lit (.int 0))) (.tup [(.lit (.str [115, 99, 104, 111, 108, 97, 114])), (.lit (.str [112, 105, 101, 99, 101]))]))]) [(.ret (.lit (.bl false)))] []), (.asg (.name 3) (.ite (.cmp .eq (.idx (.var 2) (.lit (.int 0))) (.lit (.str [115, 99, 104, 111, 108, 97, 114]))) (.bi .len [(.var 0)]) (.bi .len [(.idx (.var 0) (.lit (.int 0)))]))), (.if_ (.not (.call 1 [(.idx (.var 2) (.lit (.int 1))), (.lit (.int 0)), (.bin .sub (.var 3) (.lit (.int 1)))])) [(.ret (.lit (.bl false)))] []), (.asg (.name 4) (.ite (.cmp .eq (.idx (.var 2) (.lit (.int 0))) (.lit (.str [115, 99, 104, 111, 108, 97, 114]))) (.bi .sum [(.idx (.var 0) (.idx (.var 2) (.lit (.int 1))))]) (.bi .sum [(.call 5 [(.var 0), (.idx (.var 2) (.lit (.int 1)))])]))), (.ret (.cmp .gt (.var 4) (.var 1)))]⟩
/-- are_wants: 0 value -/
def d_are_wants : Def := ⟨1, 1, [(.ret (.call 3 [(.var 0)]))]⟩
/-- scholar_days: 0 wants 1 scholar -/
def d_scholar_days : Def := ⟨2, 2, [(.xcall (.call 4 [(.var 0)])), (.if_ (.not (.call 1 [(.var 1), (.lit (.int 0)), (.bin .sub (.bi .len [(.var 0)]) (.lit (.int 1)))])) [(.raise_ 3)] []), (.ret (.bi .sum [(.idx (.var 0) (.var 1))]))]⟩
/-- piece_days: 0 wants 1 piece -/
def d_piece_days : Def := ⟨2, 2, [(.xcall (.call 4 [(.var 0)])), (.if_ (.not (.call 1 [(.var 1), (.lit (.int 0)), (.bin .sub (.bi .len [(.idx (.var 0) (.lit (.int 0)))]) (.lit (.int 1)))])) [(.raise_ 3)] []), (.ret (.bi .sum [(.call 5 [(.var 0), (.var 1)])]))]⟩
/-- fewest_days: 0 wants -/
def d_fewest_days : Def := ⟨1, 1, [(.xcall (.call 4 [(.var 0)])), (.ret (.call 6 [(.var 0)]))]⟩
/-- day_table: 0 wants -/
def d_day_table : Def := ⟨1, 1, [(.xcall (.call 4 [(.var 0)])), (.ret (.bi .tuple [(.call 11 [(.var 0)])]))]⟩
/-- is_day_table: 0 wants 1 value -/
def d_is_day_table : Def := ⟨2, 2, [(.xcall (.call 4 [(.var 0)])), (.ret (.call 7 [(.var 0), (.var 1)]))]⟩
/-- bar_to: 0 wants 1 number 2 rows 3 found 4 row 5 at -/
def d_bar_to : Def := ⟨2, 6, [(.xcall (.call 4 [(.var 0)])), (.if_ (.not (.call 1 [(.var 1), (.lit (.int 0)), (.lit (.int 1000))])) [(.raise_ 3)] []), (.asg (.name 2) (.bin .add (.comp [5] (.name 5) (.rng1 (.bi .len [(.var 0)])) [] (.tup [(.lit (.str [115, 99, 104, 111, 108, 97, 114])), (.var 5)])) (.comp [5] (.name 5) (.rng1 (.bi .len [(.idx (.var 0) (.lit (.int 0)))])) [] (.tup [(.lit (.str [112, 105, 101, 99, 101])), (.var 5)])))), (.asg (.name 3) (.comp [4] (.name 4) (.it (.var 2)) [(.call 12 [(.var 0), (.var 1), (.var 4)])] (.var 4))), (.ret (.ite (.cmp .ne (.var 3) (.list [])) (.idx (.var 3) (.lit (.int 0))) (.lit .non)))]⟩
/-- is_bar_to: 0 wants 1 number 2 value -/
def d_is_bar_to : Def := ⟨3, 3, [(.xcall (.call 4 [(.var 0)])), (.if_ (.not (.call 1 [(.var 1), (.lit (.int 0)), (.lit (.int 1000))])) [(.raise_ 3)] []), (.ret (.call 12 [(.var 0), (.var 1), (.var 2)]))]⟩
/-- lent_on: 0 wants 1 table 2 day 3 piece -/
def d_lent_on : Def := ⟨3, 4, [(.xcall (.call 4 [(.var 0)])), (.if_ (.not (.call 7 [(.var 0), (.var 1)])) [(.raise_ 2)] []), (.if_ (.not (.call 1 [(.var 2), (.lit (.int 0)), (.bin .sub (.bi .len [(.var 1)]) (.lit (.int 1)))])) [(.raise_ 3)] []), (.ret (.bi .tuple [(.comp [3] (.name 3) (.rng1 (.bi .len [(.idx (.var 0) (.lit (.int 0)))])) [] (.ite (.cmp .in_ (.var 3) (.idx (.var 1) (.var 2))) (.meth .tindex (.idx (.var 1) (.var 2)) (.var 3)) (.lit .non)))]))]⟩
/-- _law_cup: 0 script 1 cell -/
def d__law_cup : Def := ⟨1, 2, [(.asg (.name 1) (.bi .abs [(.idx (.bin .add (.bi .list [(.var 0)]) (.list [(.lit (.int 0))])) (.lit (.int 0)))])), (.ret (.list [(.ite (.cmp .ge (.var 1) (.bin .pow (.lit (.int 10)) (.lit (.int 18)))) (.bin .fdiv (.var 1) (.lit (.int 109))) (.lit (.int 0))), (.bin .add (.bin .mod (.bi .int [(.bin .add (.bin .mul (.var 1) (.lit (.int 331))) (.lit (.int 4013)))]) (.lit (.int 2077502479))) (.lit (.int 229)))]))]⟩
/-- _law_roll: 0 cup 1 many 2 found 3 deep -/
def d__law_roll : Def := ⟨2, 4, [(.if_ (.cmp .gt (.idx (.var 0) (.lit (.int 0))) (.lit (.int 0))) [(.asg (.name 2) (.bin .mod (.bi .int [(.idx (.var 0) (.lit (.int 0)))]) (.var 1))), (.setIx (.var 0) (.lit (.int 0)) (.bin .fdiv (.idx (.var 0) (.lit (.int 0))) (.var 1))), (.ret (.var 2))] []), (.setIx (.var 0) (.lit (.int 1)) (.bin .mod (.bi .int [(.bin .add (.bin .mul (.idx (.var 0) (.lit (.int 1))) (.lit (.int 31039))) (.lit (.int 8039)))]) (.lit (.int 2147483563)))), (.asg (.name 3) (.bin .mod (.bi .int [(.bin .mul (.idx (.var 0) (.lit (.int 1))) (.bin .add (.idx (.var 0) (.lit (.int 1))) (.lit (.int 311))))]) (.lit (.int 2147483059)))), (.ret (.bin .mod (.bi .int [(.bin .fdiv (.var 3) (.lit (.int 827)))]) (.var 1)))]⟩
/-- _law_some: 0 cup 1 things -/
def d__law_some : Def := ⟨2, 2, [(.ret (.idx (.var 1) (.call 23 [(.var 0), (.bi .len [(.var 1)])])))]⟩
/-- _law_same: 0 told 1 due 2 at -/
def d__law_same : Def := ⟨2, 3, [(.if_ (.isi .tuple (.var 1)) [(.if_ (.or [(.not (.isi .tuple (.var 0))), (.cmp .ne (.bi .len [(.var 0)]) (.bi .len [(.var 1)]))]) [(.ret (.lit (.bl false)))] []), (.ret (.bi .all [(.comp [2] (.name 2) (.rng1 (.bi .len [(.var 1)])) [] (.call 25 [(.idx (.var 0) (.var 2)), (.idx (.var 1) (.var 2))]))]))] []), (.if_ (.cmp .is_ (.var 1) (.lit .non)) [(.ret (.cmp .is_ (.var 0) (.lit .non)))] []), (.if_ (.isi .bool (.var 1)) [(.ret (.ite (.var 1) (.cmp .is_ (.var 0) (.lit (.bl true))) (.cmp .is_ (.var 0) (.lit (.bl false)))))] []), (.if_ (.isi .int (.var 1)) [(.ret (.and [(.isi .int (.var 0)), (.not (.isi .bool (.var 0))), (.cmp .eq (.bi .int [(.var 0)]) (.var 1))]))] []), (.ret (.and [(.isi .str (.var 0)), (.cmp .eq (.bi .str [(.var 0)]) (.var 1))]))]⟩
/-- _law_wants: 0 cup 1 scholars 2 pieces 3 days 4 scholar 5 piece -/
def d__law_wants : Def := ⟨4, 6, [(.ret (.bi .tuple [(.comp [4] (.name 4) (.rng1 (.var 1)) [] (.bi .tuple [(.comp [5] (.name 5) (.rng1 (.var 2)) [] (.call 24 [(.var 0), (.list [(.lit (.int 0)), (.call 23 [(.var 0), (.bin .add (.var 3) (.lit (.int 1)))])])]))]))]))]⟩
/-- _law_load: 0 wants 1 found 2 row 3 piece -/
def d__law_load : Def := ⟨1, 4, [(.asg (.name 1) (.lit (.int 0))), (.for_ (.name 2) (.it (.var 0)) [(.asg (.name 1) (.bi .max2 [(.var 1), (.bi .sum [(.var 2)])]))]), (.for_ (.name 3) (.rng1 (.bi .len [(.idx (.var 0) (.lit (.int 0)))])) [(.asg (.name 1) (.bi .max2 [(.var 1), (.bi .sum [(.comp [2] (.name 2) (.it (.var 0)) [] (.idx (.var 2) (.var 3)))])]))]), (.ret (.var 1))]⟩
/-- _law_is_table: 0 wants 1 value 2 left 3 day 4 lent 5 scholar 6 piece 7 row 8 days -/
def d__law_is_table : Def := ⟨2, 9, [(.if_ (.or [(.not (.isi .tuple (.var 1))), (.cmp .ne (.comp [3] (.name 3) (.it (.var 1)) [(.or [(.not (.isi .tuple (.var 3))), (.cmp .ne (.bi .len [(.var 3)]) (.bi .len [(.var 0)]))])] (.lit (.int 1))) (.list []))]) [(.ret (.lit (.bl false)))] []), (.asg (.name 2) (.comp [7] (.name 7) (.it (.var 0)) [] (.cell (.bi .list [(.var 7)])))), (.for_ (.name 3) (.it (.var 1)) [(.asg (.name 4) (.cell (.list []))), (.for_ (.tup [(.name 5), (.name 6)]) (.enum (.var 3)) [(.if_ (.cmp .is_ (.var 6) (.lit .non)) [.cont] []), (.if_ (.or [(.not (.isi .int (.var 6))), (.isi .bool (.var 6)), (.not (.chain .le .lt (.lit (.int 0)) (.var 6) (.bi .len [(.idx (.var 0) (.lit (.int 0)))]))), (.cmp .in_ (.var 6) (.var 4))]) [(.ret (.lit (.bl false)))] []), (.expr (.append (.var 4) (.var 6))), (.setIx (.idx (.var 2) (.var 5)) (.var 6) (.bin .sub (.idx (.idx (.var 2) (.var 5)) (.var 6)) (.lit (.int 1))))])]), (.ret (.cmp .eq (.comp [7] (.name 7) (.it (.var 2)) [(.cmp .ne (.compC [8] (.name 8) (.var 7) [(.cmp .ne (.var 8) (.lit (.int 0)))] (.var 8)) (.list []))] (.var 7)) (.list [])))]⟩
/-- law: 0 script 1 cup 2 turn 3 scholars 4 pieces 5 wants 6 load 7 table 8 near 9 at 10 scholar 11 day 12 some 13 one 14 number 15 told 16 rows 17 due 18 odd 19 row 20 piece -/
def d_law : Def := ⟨1, 21, [(.asg (.name 1) (.cell (.call 22 [(.var 0)]))), (.for_ (.name 2) (.rng1 (.lit (.int 3))) [(.par [3, 4] [(.bin .add (.lit (.int 1)) (.call 23 [(.var 1), (.lit (.int 5))])), (.bin .add (.lit (.int 1)) (.call 23 [(.var 1), (.lit (.int 5))]))]), (.asg (.name 5) (.call 26 [(.var 1), (.var 3), (.var 4), (.lit (.int 3))])), (.asg (.name 6) (.call 27 [(.var 5)])), (.asg (.name 7) (.call 17 [(.var 5)])), (.if_ (.or [(.cmp .isn (.call 13 [(.var 5)]) (.lit (.bl true))), (.not (.call 25 [(.tup [(.call 16 [(.var 5)]), (.bi .len [(.var 7)])]), (.tup [(.var 6), (.var 6)])])), (.not (.call 28 [(.var 5), (.var 7)]))]) [(.ret (.lit (.bl false)))] []), (.if_ (.or [(.cmp .ne (.comp [9] (.name 9) (.rng1 (.var 3)) [] (.call 14 [(.var 5), (.var 9)])) (.comp [19] (.name 19) (.it (.var 5)) [] (.bi .sum [(.var 19)]))), (.cmp .ne (.comp [9] (.name 9) (.rng1 (.var 4)) [] (.call 15 [(.var 5), (.var 9)])) (.comp [9] (.name 9) (.rng1 (.var 4)) [] (.bi .sum [(.comp [19] (.name 19) (.it (.var 5)) [] (.idx (.var 19) (.var 9)))])))]) [(.ret (.lit (.bl false)))] []), (.asg (.name 8) (.list [(.var 7), (.rev (.var 7)), (.bin .add (.var 7) (.tup [(.bin .mul (.tup [(.lit .non)]) (.var 3))])), (.bi .list [(.var 7)]), (.lit .non), (.slice (.var 7) (some (.lit (.int 1))) none), (.bin .add (.var 7) (.slice (.var 7) (some (.neg (.lit (.int 1)))) none)), (.tup []), (.bi .tuple [(.comp [11] (.name 11) (.it (.var 7)) [] (.rev (.var 11)))]), (.bi .tuple [(.comp [11] (.name 11) (.it (.var 7)) [] (.bi .list [(.var 11)]))])])), (.if_ (.cmp .ne (.var 7) (.tup [])) [(.asg (.tup [(.name 9), (.name 10)]) (.tup [(.call 23 [(.var 1), (.var 6)]), (.call 23 [(.var 1), (.var 3)])])), (.asg (.name 11) (.idx (.var 7) (.var 9))), (.asg (.name 12) (.comp [18] (.name 18) (.it (.tup [(.lit .non), (.var 4), (.neg (.lit (.int 1))), (.lit (.bl true)), (.lit (.str [48])), (.call 23 [(.var 1), (.var 4)])])) [] (.bin .add (.bin .add (.slice (.var 11) none (some (.var 10))) (.tup [(.var 18)])) (.slice (.var 11) (some (.bin .add (.var 10) (.lit (.int 1)))) none)))), (.asg (.name 8) (.bin .add (.var 8) (.comp [13] (.name 13) (.it (.bin .add (.var 12) (.list [(.slice (.var 11) (some (.lit (.int 1))) none), (.bin .add (.var 11) (.tup [(.lit .non)])), (.lit .non)]))) [] (.bin .add (.bin .add (.slice (.var 7) none (some (.var 9))) (.tup [(.var 13)])) (.slice (.var 7) (some (.bin .add (.var 9) (.lit (.int 1)))) none)))))] []), (.for_ (.name 13) (.it (.var 8)) [(.if_ (.not (.call 25 [(.call 18 [(.var 5), (.var 13)]), (.call 28 [(.var 5), (.var 13)])])) [(.ret (.lit (.bl false)))] [])]), (.for_ (.tup [(.name 9), (.name 11)]) (.enum (.var 7)) [(.if_ (.not (.call 25 [(.call 21 [(.var 5), (.var 7), (.var 9)]), (.bi .tuple [(.comp [20] (.name 20) (.rng1 (.var 4)) [] (.ite (.cmp .in_ (.var 20) (.var 11)) (.meth .tindex (.var 11) (.var 20)) (.lit .non)))])])) [(.ret (.lit (.bl false)))] [])]), (.for_ (.name 14) (.it (.tup [(.lit (.int 0)), (.bin .sub (.var 6) (.lit (.int 1))), (.var 6), (.bin .add (.var 6) (.lit (.int 1))), (.lit (.int 1000))])) [(.if_ (.cmp .lt (.var 14) (.lit (.int 0))) [.cont] []), (.asg (.name 15) (.call 19 [(.var 5), (.var 14)])), (.if_ (.or [(.cmp .ne (.cmp .is_ (.var 15) (.lit .non)) (.cmp .ge (.var 14) (.var 6))), (.and [(.cmp .isn (.var 15) (.lit .non)), (.cmp .isn (.call 20 [(.var 5), (.var 14), (.var 15)]) (.lit (.bl true)))])]) [(.ret (.lit (.bl false)))] []), (.asg (.name 16) (.bin .add (.comp [9] (.name 9) (.rng1 (.var 3)) [] (.tup [(.lit (.str [115, 99, 104, 111, 108, 97, 114])), (.var 9)])) (.comp [9] (.name 9) (.rng1 (.var 4)) [] (.tup [(.lit (.str [112, 105, 101, 99, 101])), (.var 9)])))), (.asg (.name 17) (.bin .add (.comp [19] (.name 19) (.it (.var 5)) [] (.cmp .gt (.bi .sum [(.var 19)]) (.var 14))) (.comp [9] (.name 9) (.rng1 (.var 4)) [] (.cmp .gt (.bi .sum [(.comp [19] (.name 19) (.it (.var 5)) [] (.idx (.var 19) (.var 9)))]) (.var 14))))), (.if_ (.cmp .ne (.comp [19] (.name 19) (.it (.var 16)) [] (.call 20 [(.var 5), (.var 14), (.var 19)])) (.var 17)) [(.ret (.lit (.bl false)))] []), (.for_ (.name 18) (.it (.tup [(.lit .non), (.tup []), (.tup [(.lit (.str [115, 99, 104, 111, 108, 97, 114]))]), (.tup [(.lit (.str [115, 99, 104, 111, 108, 97, 114])), (.var 3)]), (.tup [(.lit (.str [112, 105, 101, 99, 101])), (.var 4)]), (.tup [(.lit (.str [112, 105, 101, 99, 101])), (.neg (.lit (.int 1)))]), (.tup [(.lit (.str [98, 111, 111, 107])), (.lit (.int 0))]), (.list [(.lit (.str [112, 105, 101, 99, 101])), (.lit (.int 0))]), (.tup [(.lit (.str [112, 105, 101, 99, 101])), (.lit (.bl true))]), (.tup [(.lit .non), (.lit (.int 0))]), (.tup [(.list [(.lit (.str [112, 105, 101, 99, 101]))]), (.lit (.int 0))])])) [(.if_ (.cmp .isn (.call 20 [(.var 5), (.var 14), (.var 18)]) (.lit (.bl false))) [(.ret (.lit (.bl false)))] [])])])]), (.ret (.lit (.bl true)))]⟩
def cons : List Val := [(.int 10), (.int 10), (.int 12)]
def sub : List (List Bool) := [[], [], [], []]
def prog : Prog := { fns := [d_is_whole, d_fits_whole, d_is_tuple_of, d_fits_wants, d_need_wants, d_column, d_greatest_load, d_fits_table, d_padded, d_step, d_matching, d_days_in, d_fits_bar, d_are_wants, d_scholar_days, d_piece_days, d_fewest_days, d_day_table, d_is_day_table, d_bar_to, d_is_bar_to, d_lent_on, d__law_cup, d__law_roll, d__law_some, d__law_same, d__law_wants, d__law_load, d__law_is_table, d_law], con := cons, fuel := 100000, adr := adrs, cls := clss, sub := sub, grd := grds }
abbrev f_is_whole : Nat := 0
abbrev f_fits_whole : Nat := 1
abbrev f_is_tuple_of : Nat := 2
abbrev f_fits_wants : Nat := 3
abbrev f_need_wants : Nat := 4
abbrev f_column : Nat := 5
abbrev f_greatest_load : Nat := 6
abbrev f_fits_table : Nat := 7
abbrev f_padded : Nat := 8
abbrev f_step : Nat := 9
abbrev f_matching : Nat := 10
abbrev f_days_in : Nat := 11
abbrev f_fits_bar : Nat := 12
abbrev f_are_wants : Nat := 13
abbrev f_scholar_days : Nat := 14
abbrev f_piece_days : Nat := 15
abbrev f_fewest_days : Nat := 16
abbrev f_day_table : Nat := 17
abbrev f_is_day_table : Nat := 18
abbrev f_bar_to : Nat := 19
abbrev f_is_bar_to : Nat := 20
abbrev f_lent_on : Nat := 21
abbrev f__law_cup : Nat := 22
abbrev f__law_roll : Nat := 23
abbrev f__law_some : Nat := 24
abbrev f__law_same : Nat := 25
abbrev f__law_wants : Nat := 26
abbrev f__law_load : Nat := 27
abbrev f__law_is_table : Nat := 28
abbrev f_law : Nat := 29

def sto0 : Sto := []
end K68

set_option linter.all false
set_option maxRecDepth 10000
/-! Runs of the evaluator over data that is not known. -/
namespace QE
@[simp] theorem R.bind_okS {α β : Type} (a : α) (S : Sto) (f : α → Sto → R β) : (R.ok a S).bind f = f a S := by exact id rfl
@[simp] theorem R.calm_okS {α : Type} (a : α) (S : Sto) : (R.ok a S).calm = .ok a S := by exact id rfl
@[simp] theorem R.bind_excS {α β : Type} (k : Nat) (ps : List Val) (S : Sto) (f : α → Sto → R β) : (R.exc k ps S : R α).bind f = .exc k ps S := by exact id rfl
@[simp] theorem R.bind_badS {α β : Type} (f : α → Sto → R β) : (R.bad : R α).bind f = .bad := by exact id rfl
@[simp] theorem guard_ok (c : Ctx) (g : Nat) (v : Val) (S : Sto) : guardR c g (.ok v S) = R.of (c.gok g) S := by exact id rfl
@[simp] theorem guard_exc (c : Ctx) (g k : Nat) (ps : List Val) (S : Sto) : guardR c g (.exc k ps S) = R.of (c.gx g k) S := by exact id rfl
@[simp] theorem R.of_some {α : Type} (a : α) (S : Sto) : R.of (some a) S = .ok a S := by exact id rfl
@[simp] theorem R.ite_ok {α : Type} {p : Prop} [Decidable p] (a b : α) (S : Sto) : (if p then R.ok a S else R.ok b S) = R.ok (if p then a else b) S := by split <;> rfl
@[simp] theorem len_le_self {α : Type} (S : List α) : (S.length ≤ S.length) = True := by simp
theorem comp_run {α : Type} {tg : T} {test : Env → Sto → R Bool} {elt : Env → Sto → R Val} {env : Env} {S : Sto} (e : α → Val) (p : α → Bool) (g : α → Val) :
    ∀ (xs : List α), (∀ a ∈ xs, ∃ env', bindT tg (e a) env = some env' ∧ test env' S = .ok (p a) S ∧ (p a = true → elt env' S = .ok (g a) S)) →
    compLoop tg test elt env (xs.map e) S = .ok ((xs.filter p).map fun a => (g a).settle) S
  | [], _ => rfl
  | x :: xs, h => by
    obtain ⟨env', h1, h2, h3⟩ := h x (by simp)
    have ih := comp_run e p g xs fun a ha => h a (List.mem_cons_of_mem _ ha)
    simp only [List.map_cons, compLoop, h1, h2, R.bind_okS]
    cases hp : p x with
    | true => simp [h3 hp, ih, List.filter_cons, hp]
    | false => simp [ih, List.filter_cons, hp]
theorem comp_all {α : Type} {tg : T} {c : Ctx} {elt : Env → Sto → R Val} {env : Env} {S : Sto} (e : α → Val) (g : α → Val) (xs : List α) (h : ∀ a ∈ xs, ∃ env', bindT tg (e a) env = some env' ∧ elt env' S = .ok (g a) S) :
    compLoop tg (evalAnd c []) elt env (xs.map e) S = .ok (xs.map fun a => (g a).settle) S := by
  have := comp_run (tg := tg) (test := evalAnd c []) (elt := elt) (env := env) (S := S) e (fun _ => true) g xs fun a ha => by
    obtain ⟨env', h1, h2⟩ := h a ha
    exact ⟨env', h1, by simp [evalAnd], fun _ => h2⟩
  rw [this, List.filter_eq_self.mpr (fun _ _ => rfl)]
theorem for_run {α : Type} {tg : T} {body : Env → Sto → R (Fl × Env)} (e : α → Val) (I : Nat → Env → Sto → Prop) :
    ∀ (xs : List α) (n : Nat) (env : Env) (S : Sto), I n env S → (∀ i a env S, xs[i]? = some a → I (n + i) env S → ∃ env' env2 S2, bindT tg (e a) env = some env' ∧ body env' S = .ok (.nx, env2) S2 ∧ I (n + i + 1) env2 S2) →
    ∃ env2 S2, forLoop tg body (xs.map e) env S = .ok (.nx, env2) S2 ∧ I (n + xs.length) env2 S2
  | [], n, env, S, h0, _ => ⟨env, S, rfl, h0⟩
  | x :: xs, n, env, S, h0, h => by
    obtain ⟨env', env2, S2, h1, h2, h3⟩ := h 0 x env S rfl h0
    obtain ⟨env3, S3, h4, h5⟩ := for_run e I xs (n + 1) env2 S2 h3 fun i a env S q r => by
      have := h (i + 1) a env S (by simpa using q) (by rw [show n + (i + 1) = n + 1 + i by omega]; exact r)
      rw [show n + (i + 1) = n + 1 + i by omega] at this
      exact this
    refine ⟨env3, S3, ?_, by rw [List.length_cons, show n + (xs.length + 1) = n + 1 + xs.length by omega]; exact h5⟩
    simp only [List.map_cons, forLoop, h1, h2, R.bind_okS, h4]
theorem ss_step {c : Ctx} {s : Stm} {ss : List Stm} {env env' : Env} {S S' : Sto} {r : R (Fl × Env)} (h : execS c s env S = .ok (.nx, env') S') (k : execSs c ss env' S' = r) : execSs c (s :: ss) env S = r := by
  simp only [execSs, h, R.bind_okS, k]
theorem rangeV_map (a : Int) : ∀ n : Nat, rangeV a n = (List.range n).map fun i => .int (a + (i : Nat))
  | 0 => rfl
  | n + 1 => by
    rw [rangeV, rangeV_map (a + 1) n, List.range_succ_eq_map, List.map_cons, List.map_map]
    simp only [Int.natCast_zero, Int.add_zero, List.cons.injEq, true_and]
    apply List.map_congr_left
    intro i _
    simp only [Function.comp_apply]
    congr 1
    push_cast
    omega
theorem bools_map {α : Type} (p : α → Bool) : ∀ xs : List α, bools? (xs.map fun a => .bl (p a)) = some (xs.map p)
  | [] => rfl
  | x :: xs => by simp [bools?, bools_map p xs]
theorem ints_map {α : Type} (p : α → Int) : ∀ xs : List α, ints? (xs.map fun a => .int (p a)) = some (xs.map p)
  | [] => rfl
  | x :: xs => by simp [ints?, ints_map p xs]
def cxt (P : Prog) (k b : Nat) : Ctx := ctxOf P (callFn P k) b
@[simp] theorem cxt_call (P : Prog) (k b : Nat) : (cxt P k b).call = callFn P k := by exact id rfl
@[simp] theorem cxt_adr (P : Prog) (k b i : Nat) : (cxt P k b).adr i = P.adr[i]? := by exact id rfl
@[simp] theorem cxt_gok (P : Prog) (k b g : Nat) : (cxt P k b).gok g = (P.grd.lookup g).map fun t => t.1 := by exact id rfl
@[simp] theorem cxt_gx (P : Prog) (k b g j : Nat) : (cxt P k b).gx g j = (P.grd.lookup g).bind fun t => (t.2[j]?).bind id := by exact id rfl
@[simp] theorem cxt_base (P : Prog) (k b : Nat) : (cxt P k b).base = b := by exact id rfl
@[simp] theorem cxt_con (P : Prog) (k b i : Nat) : (cxt P k b).con i = P.con[i]? := by exact id rfl
theorem run_fn {P : Prog} {f k : Nat} {args : List Val} {S : Sto} {d : Def} (hd : P.fns[f]? = some d) (ha : args.length = d.arity) :
    callFn P (k + 1) f args S = finish S.length (execSs (cxt P k S.length) d.body (args.map some ++ List.replicate (d.size - d.arity) none) S) := by
  simp only [callFn, hd, ha, if_true]
  rfl
/-! ### the evaluator's steps, all but the comprehensions' -/
section
variable (c : Ctx) (env : Env) (S : Sto)
@[simp] theorem ev_var (i : Nat) : evalE c (.var i) env S = (match env[i]? with
    | some (some v) => .ok v S
    | _ => .bad) := by rw [evalE] <;> rfl
@[simp] theorem ev_lit (v : Val) : evalE c (.lit v) env S = .ok v S := by rw [evalE]
@[simp] theorem ev_con (i : Nat) : evalE c (.con i) env S = R.of (c.con i) S := by rw [evalE]
@[simp] theorem ev_bin (op : BOp) (a b : E) : evalE c (.bin op a b) env S = (evalE c a env S).bind fun x S1 => (evalE c b env S1).bind fun y S2 => R.of (QE.bin S2 op x y) S2 := by rw [evalE]
@[simp] theorem ev_neg (a : E) : evalE c (.neg a) env S = (evalE c a env S).bind fun x S1 => (asInt x S1).bind fun i S2 => .ok (.int (-i)) S2 := by rw [evalE]
@[simp] theorem ev_cmp (op : COp) (a b : E) : evalE c (.cmp op a b) env S = (evalE c a env S).bind fun x S1 => (evalE c b env S1).bind fun y S2 => (R.of (QE.cmp S2 op x y) S2).bind fun r S3 => .ok (.bl r) S3 := by rw [evalE]
@[simp] theorem ev_chain (o1 o2 : COp) (a b d : E) : evalE c (.chain o1 o2 a b d) env S = (evalE c a env S).bind fun x S1 => (evalE c b env S1).bind fun y S2 => (R.of (QE.cmp S2 o1 x y) S2).bind fun r S3 =>
      if r then (evalE c d env S3).bind fun z S4 => (R.of (QE.cmp S4 o2 y z) S4).bind fun r S5 => .ok (.bl r) S5 else .ok (.bl false) S3 := by rw [evalE]
@[simp] theorem ev_and (es : List E) : evalE c (.and es) env S = (evalAnd c es env S).bind fun b S1 => .ok (.bl b) S1 := by rw [evalE]
@[simp] theorem ev_or (es : List E) : evalE c (.or es) env S = (evalOr c es env S).bind fun b S1 => .ok (.bl b) S1 := by rw [evalE]
@[simp] theorem ev_not (a : E) : evalE c (.not a) env S = (evalE c a env S).bind fun x S1 => (asBl x S1).bind fun b S2 => .ok (.bl (!b)) S2 := by rw [evalE]
@[simp] theorem ev_ite (t a b : E) : evalE c (.ite t a b) env S = (evalE c t env S).bind fun x S1 => (asBl x S1).bind fun r S2 => if r then evalE c a env S2 else evalE c b env S2 := by rw [evalE]
@[simp] theorem ev_tup (es : List E) : evalE c (.tup es) env S = (evalEs c es env S).bind fun xs S1 => if xs.length ≤ lim then .ok (.tup xs) S1 else .bad := by rw [evalE]
@[simp] theorem ev_list (es : List E) : evalE c (.list es) env S = (evalEs c es env S).bind fun xs S1 => if xs.length ≤ lim then .ok (.lst true xs) S1 else .bad := by rw [evalE]
@[simp] theorem ev_dnew (t : Bool) : evalE c (.dnew t) env S = .ok (.dic true t []) S := by rw [evalE]
@[simp] theorem ev_idx (a i : E) : evalE c (.idx a i) env S = (evalE c a env S).bind fun x S1 => (evalE c i env S1).bind fun y S2 => R.of (item S2 x y) S2 := by rw [evalE]
@[simp] theorem ev_slice (a : E) (lo hi : Option E) : evalE c (.slice a lo hi) env S = (evalE c a env S).bind fun x S1 => (evalO c lo env S1).bind fun l S2 => (evalO c hi env S2).bind fun h S3 => R.of (QE.slice S3 x l h) S3 := by rw [evalE]
@[simp] theorem ev_call (f : Nat) (es : List E) : evalE c (.call f es) env S = (evalEs c es env S).bind fun xs S1 => c.call f xs S1 := by rw [evalE]
@[simp] theorem ev_bi (b : Bi) (es : List E) : evalE c (.bi b es) env S = (evalEs c es env S).bind fun xs S1 => R.of (callBi S1 b xs) S1 := by rw [evalE]
@[simp] theorem ev_isi (t : Ty) (a : E) : evalE c (.isi t a) env S = (evalE c a env S).bind fun x S1 => (R.of (isTy S1 t x) S1).bind fun r S2 => .ok (.bl r) S2 := by rw [evalE]
@[simp] theorem ev_meth (m : Me) (o a : E) : evalE c (.meth m o a) env S = (evalE c o env S).bind fun x S1 => (R.of (recOf S1 m x) S1).bind fun _ S1 => (evalE c a env S1).bind fun v S2 => R.of (callMe S2 m x [v.settle]) S2 := by rw [evalE]
@[simp] theorem ev_append (o a : E) : evalE c (.append o a) env S = (evalE c o env S).bind fun x S1 => (R.of (asList S1 x) S1).bind fun _ S1 => (evalE c a env S1).bind fun v S2 => QE.append c.base S2 x v.settle := by rw [evalE]
@[simp] theorem ev_cell (e : E) : evalE c (.cell e) env S = (evalE c e env S).bind fun v S1 => newCell S1 v := by rw [evalE]
@[simp] theorem es_nil : evalEs c [] env S = .ok [] S := by rw [evalEs]
@[simp] theorem es_cons (e : E) (es : List E) : evalEs c (e :: es) env S = (evalE c e env S).bind fun x S1 => (evalEs c es env S1).bind fun xs S2 => .ok (x.settle :: xs) S2 := by rw [evalEs]
@[simp] theorem eo_none : evalO c none env S = .ok none S := by rw [evalO]
@[simp] theorem eo_some (e : E) : evalO c (some e) env S = (evalE c e env S).bind fun x S1 => (asInt x S1).bind fun i S2 => .ok (some i) S2 := by rw [evalO]
@[simp] theorem ea_nil : evalAnd c [] env S = .ok true S := by rw [evalAnd]
@[simp] theorem ea_cons (e : E) (es : List E) : evalAnd c (e :: es) env S = (evalE c e env S).bind fun x S1 => (asBl x S1).bind fun b S2 => if b then evalAnd c es env S2 else .ok false S2 := by rw [evalAnd]
@[simp] theorem eor_nil : evalOr c [] env S = .ok false S := by rw [evalOr]
@[simp] theorem eor_cons (e : E) (es : List E) : evalOr c (e :: es) env S = (evalE c e env S).bind fun x S1 => (asBl x S1).bind fun b S2 => if b then .ok true S2 else evalOr c es env S2 := by rw [evalOr]
@[simp] theorem sr_it (e : E) : evalSrc c (.it e) env S = (evalE c e env S).bind fun v S1 => R.of (walkOf v) S1 := by rw [evalSrc]
@[simp] theorem sr_1 (a : E) : evalSrc c (.rng1 a) env S = (evalE c a env S).bind fun v S1 => (asInt v S1).bind fun i S2 => rangeOf S2 0 i := by rw [evalSrc]
@[simp] theorem sr_2 (a b : E) : evalSrc c (.rng2 a b) env S = (evalE c a env S).bind fun v S1 => (asInt v S1).bind fun i S2 => (evalE c b env S2).bind fun w S3 => (asInt w S3).bind fun j S4 => rangeOf S4 i j := by rw [evalSrc]
@[simp] theorem sr_enum (e : E) : evalSrc c (.enum e) env S = (evalE c e env S).bind fun v S1 => (R.of (seqOf v) S1).bind fun xs S2 => .ok (enumFrom 0 xs) S2 := by rw [evalSrc]
@[simp] theorem sr_zip (a b : E) : evalSrc c (.zip a b) env S = (evalE c a env S).bind fun v S1 => (evalE c b env S1).bind fun w S2 => (R.of (twoOf v w) S2).bind fun p S3 => .ok (zipV p.1 p.2) S3 := by rw [evalSrc]
@[simp] theorem xs_nil : execSs c [] env S = .ok (.nx, env) S := by rw [execSs]
@[simp] theorem xs_cons (s : Stm) (ss : List Stm) : execSs c (s :: ss) env S = (execS c s env S).bind fun f S1 => match f with
    | (.nx, e) => execSs c ss e S1
    | (f, e) => .ok (f, e) S1 := by rw [execSs] <;> rfl
@[simp] theorem x_asg (tg : T) (e : E) : execS c (.asg tg e) env S = (evalE c e env S).calm.bind fun v S1 => (R.of (bindT tg v env) S1).bind fun env' S2 => .ok (.nx, env') S2 := by rw [execS]
@[simp] theorem x_setIx (o i e : E) : execS c (.setIx o i e) env S = (evalE c e env S).calm.bind fun v S1 => (evalE c o env S1).calm.bind fun x S2 => (evalE c i env S2).calm.bind fun y S3 => (QE.setIx c.base S3 x y v).calm.bind fun _ S4 => .ok (.nx, env) S4 := by rw [execS]
@[simp] theorem x_ext (i : Nat) (e : E) : execS c (.ext i e) env S = (match env[i]? with
    | some (some x) => (evalE c e env S).calm.bind fun y S1 => (QE.extend c.base S1 x y).calm.bind fun _ S2 => .ok (.nx, env) S2
    | _ => .bad) := by rw [execS] <;> rfl
@[simp] theorem x_expr (e : E) : execS c (.expr e) env S = (evalE c e env S).calm.bind fun _ S1 => .ok (.nx, env) S1 := by rw [execS]
@[simp] theorem x_ret (e : E) : execS c (.ret e) env S = (evalE c e env S).calm.bind fun v S1 => .ok (.rt v, env) S1 := by rw [execS]
@[simp] theorem x_if (t : E) (a b : List Stm) : execS c (.if_ t a b) env S = (evalE c t env S).calm.bind fun x S1 => (asBl x S1).bind fun r S2 => if r then execSs c a env S2 else execSs c b env S2 := by rw [execS]
@[simp] theorem ev_guard (g j p : Nat) (q : List Nat) (e : E) : evalE c (.guard g j p q e) env S = if tblAt S j p q then guardR c g (evalX c e env S) else .bad := by rw [evalE]
@[simp] theorem ev_fn (f : Nat) : evalE c (.fn f) env S = (R.of (c.adr f) S).bind fun a S1 => .ok (.fn f a) S1 := by rw [evalE]
@[simp] theorem ev_trng (a b : E) : evalE c (.trng a b) env S = (evalE c a env S).bind fun v S1 => (asInt v S1).bind fun i S2 => (evalE c b env S2).bind fun w S3 => (asInt w S3).bind fun j S4 => (rangeOf S4 i j).bind fun xs S5 => if xs.length ≤ lim then .ok (.tup xs) S5 else .bad := by rw [evalE]
@[simp] theorem eX_call (f : Nat) (es : List E) : evalX c (.call f es) env S = (evalEs c es env S).calm.bind fun xs S1 => c.call f xs S1 := by rw [evalX]
@[simp] theorem eX_callV (i : Nat) (es : List E) : evalX c (.callV i es) env S = (R.of (fnAt c env i) S).bind fun f S0 => (evalEs c es env S0).calm.bind fun xs S1 => c.call f xs S1 := by rw [evalX]
@[simp] theorem x_raise (k : Nat) : execS c (.raise_ k) env S = .exc k [] S := by rw [execS]
@[simp] theorem x_xcall (e : E) : execS c (.xcall e) env S = (evalX c e env S).bind fun _ S1 => .ok (.nx, env) S1 := by rw [execS]
@[simp] theorem bl_ok (b : Bool) : asBl (.bl b) S = .ok b S := by exact id rfl
@[simp] theorem int_ok (b : Int) : asInt (.int b) S = .ok b S := by exact id rfl
@[simp] theorem set_int (i : Int) : (Val.int i).settle = .int i := by exact id rfl
@[simp] theorem set_bl (i : Bool) : (Val.bl i).settle = .bl i := by exact id rfl
@[simp] theorem set_str (i : List Nat) : (Val.str i).settle = .str i := by exact id rfl
@[simp] theorem set_non : Val.non.settle = .non := by exact id rfl
@[simp] theorem set_tup (i : List Val) : (Val.tup i).settle = .tup i := by exact id rfl
@[simp] theorem set_ref (i : Nat) : (Val.ref i).settle = .ref i := by exact id rfl
@[simp] theorem set_lst (f : Bool) (i : List Val) : (Val.lst f i).settle = .lst false i := by exact id rfl
@[simp] theorem set_dic (f t : Bool) (i : List (Val × Val)) : (Val.dic f t i).settle = .dic false t i := by exact id rfl
@[simp] theorem bind_name (i : Nat) (v : Val) : bindT (.name i) v env = some (env.set i (some v.settle)) := by rw [bindT]
@[simp] theorem bind_tup (ts : List T) (xs : List Val) : bindT (.tup ts) (.tup xs) env = bindTs ts xs env := by rw [bindT]
@[simp] theorem binds_nil : bindTs [] [] env = some env := by rw [bindTs]
@[simp] theorem binds_cons (t : T) (ts : List T) (x : Val) (xs : List Val) : bindTs (t :: ts) (x :: xs) env = (match bindT t x env with
    | some env' => bindTs ts xs env'
    | none => none) := by rw [bindTs] <;> rfl
@[simp] theorem fin_rt (v : Val) (e : Env) : finish S.length (.ok (.rt v, e) S) = .ok v S := by simp [finish]
@[simp] theorem fin_exc (k : Nat) (ps : List Val) : finish S.length (.exc k ps S) = .exc k ps S := by simp [finish]
@[simp] theorem fin_nx (e : Env) : finish S.length (.ok (.nx, e) S) = .ok .non S := by simp [finish]
variable {c env S}
theorem ev_comp {own : List Nat} {tg : T} {src : Src} {ifs : List E} {elt : E} {xs ys : List Val} {S1 S2 : Sto} (h1 : evalSrc c src env S = .ok xs S1) (h2 : compLoop tg (evalAnd c ifs) (evalE c elt) (wipe env own) xs S1 = .ok ys S2) (hl : ys.length ≤ lim) :
    evalE c (.comp own tg src ifs elt) env S = .ok (.lst true ys) S2 := by
  rw [evalE]
  simp [h1, h2, hl]
theorem ev_dcomp {own : List Nat} {tg : T} {src : Src} {t : Bool} {k v : E} {xs : List Val} {ys : List (Val × Val)} {S1 S2 : Sto} (h1 : evalSrc c src env S = .ok xs S1) (h2 : dcompLoop tg t (evalE c k) (evalE c v) (wipe env own) xs [] S1 = .ok ys S2) (hl : xs.length ≤ lim) :
    evalE c (.dcomp own tg src t k v) env S = .ok (.dic true t ys) S2 := by
  rw [evalE]
  simp [h1, h2, hl]
theorem x_for {tg : T} {src : Src} {body : List Stm} {xs : List Val} {S1 : Sto} {r : R (Fl × Env)} (h1 : evalSrc c src env S = .ok xs S1) (h2 : forLoop tg (execSs c body) xs env S1 = r) : execS c (.for_ tg src body) env S = r := by
  rw [execS]
  simp [h1, h2]
end
end QE
namespace QE
theorem ev_compS (c : Ctx) (env : Env) (S : Sto) (own : List Nat) (tg : T) (src : Src) (ifs : List E) (elt : E) : evalE c (.comp own tg src ifs elt) env S = (evalSrc c src env S).bind fun xs S1 => (compLoop tg (evalAnd c ifs) (evalE c elt) (wipe env own) xs S1).calm.bind fun ys S2 => if ys.length ≤ lim then .ok (.lst true ys) S2 else .bad := by rw [evalE]
theorem R.calm_if {α : Type} {p : Prop} [Decidable p] (a b : R α) : (if p then a else b).calm = if p then a.calm else b.calm := by split <;> rfl
@[simp] theorem R.calm_excS {α : Type} (k : Nat) (ps : List Val) (S : Sto) : (R.exc k ps S : R α).calm = .bad := by exact id rfl
@[simp] theorem set_fn (f a : Nat) : (Val.fn f a).settle = .fn f a := by exact id rfl
@[simp] theorem set_ptup (xs : List Val) : (Val.ptup xs).settle = .ptup xs := by exact id rfl
@[simp] theorem x_par (c : Ctx) (env : Env) (S : Sto) (is : List Nat) (es : List E) : execS c (.par is es) env S = (evalEs c es env S).calm.bind fun xs S1 => (R.of (setAll is xs env) S1).bind fun env' S2 => .ok (.nx, env') S2 := by rw [execS]
@[simp] theorem x_augIx (c : Ctx) (env : Env) (S : Sto) (o i : E) (op : BOp) (e : E) : execS c (.augIx o i op e) env S = (evalE c o env S).calm.bind fun x S1 => (evalE c i env S1).calm.bind fun y S2 => (R.of (cellAt S2 x y) S2).bind fun k S3 => (evalE c e env S3).calm.bind fun z S4 => (R.of (sumOf op k z) S4).bind fun w S5 => (QE.setIx c.base S5 x y w).calm.bind fun _ S6 => .ok (.nx, env) S6 := by rw [execS]
theorem x_forD {c : Ctx} {env : Env} {S : Sto} {tg : T} {i : Nat} {body : List Stm} {xs : List Val} {e : Env} {S1 : Sto} (h1 : keysAt env i = some xs) (h2 : forLoop tg (execSs c body) xs env S = .ok (.nx, e) S1) : execS c (.forD tg i body) env S = .ok (.nx, e) S1 := by
  rw [execS, h1]
  simp only [R.of_some, R.bind_okS, h2, onlyNx]
@[simp] theorem x_aug (c : Ctx) (env : Env) (S : Sto) (i : Nat) (op : BOp) (e : E) (a : Int) (h : env[i]? = some (some (.int a))) : execS c (.aug i op e) env S = (evalE c e env S).calm.bind fun y S1 => (match (Val.int a), y with
      | .int _, .int _ => (R.of (QE.bin S1 op (.int a) y) S1).bind fun z S2 => .ok (.nx, env.set i (some z.settle)) S2
      | .str _, .str _ => (R.of (QE.bin S1 op (.int a) y) S1).bind fun z S2 => .ok (.nx, env.set i (some z.settle)) S2
      | _, _ => .bad) := by rw [execS, h] <;> rfl
@[simp] theorem ev_rev (c : Ctx) (env : Env) (S : Sto) (a : E) : evalE c (.rev a) env S = (evalE c a env S).bind fun x S1 => R.of (revV S1 x) S1 := by rw [evalE]
theorem ev_compC {c : Ctx} {env : Env} {S : Sto} {own : List Nat} {tg : T} {e : E} {ifs : List E} {elt : E} {n : Nat} {xs ys : List Val} {S1 S2 : Sto} (h1 : evalE c e env S = .ok (.ref n) S1) (h0 : S1[n]? = some (.lst xs)) (h2 : compLoopC n xs tg (evalAnd c ifs) (evalE c elt) (wipe env own) xs S1 = .ok ys S2) (hl : ys.length ≤ lim) :
    evalE c (.compC own tg e ifs elt) env S = .ok (.lst true ys) S2 := by
  rw [evalE]
  simp [h1, cellOf, h0, h2, hl]
theorem sameL_int : ∀ l : List Int, Val.sameL (l.map Val.int) (l.map Val.int) = true
  | [] => by simp [Val.sameL]
  | x :: l => by simp [Val.sameL, Val.same, sameL_int l]
end QE

/-! Matchings by augmenting ways, in tables whose rows and columns all have one sum. -/
set_option linter.all false
namespace Kuhn
/-! ### sums -/
def sm (l : List Nat) (f : Nat → Int) : Int := (l.map f).sum
theorem sm_nil (f : Nat → Int) : sm [] f = 0 := rfl
theorem sm_cons (x : Nat) (l : List Nat) (f : Nat → Int) : sm (x :: l) f = f x + sm l f := rfl
theorem sm_app (l l' : List Nat) (f : Nat → Int) : sm (l ++ l') f = sm l f + sm l' f := by simp [sm]
theorem sm_perm {l l' : List Nat} (h : l.Perm l') (f : Nat → Int) : sm l f = sm l' f := by
  induction h with
  | nil => rfl
  | cons x _ ih => simp only [sm_cons, ih]
  | swap x y l => simp only [sm_cons]; omega
  | trans _ _ ih1 ih2 => exact ih1.trans ih2
theorem sm_add (l : List Nat) (f g : Nat → Int) : sm l (fun x => f x + g x) = sm l f + sm l g := by
  induction l with
  | nil => rfl
  | cons x l ih => simp only [sm_cons, ih]; omega
theorem sm_sub (l : List Nat) (f g : Nat → Int) : sm l (fun x => f x - g x) = sm l f - sm l g := by
  induction l with
  | nil => rfl
  | cons x l ih => simp only [sm_cons, ih]; omega
theorem sm_congr {l : List Nat} {f g : Nat → Int} (h : ∀ x ∈ l, f x = g x) : sm l f = sm l g := by
  induction l with
  | nil => rfl
  | cons x l ih =>
    rw [sm_cons, sm_cons, h x (by simp), ih fun y hy => h y (List.mem_cons_of_mem _ hy)]
theorem sm_zero {l : List Nat} {f : Nat → Int} (h : ∀ x ∈ l, f x = 0) : sm l f = 0 := by
  induction l with
  | nil => rfl
  | cons x l ih => rw [sm_cons, h x (by simp), ih fun y hy => h y (List.mem_cons_of_mem _ hy)]; rfl
theorem sm_nonneg {l : List Nat} {f : Nat → Int} (h : ∀ x ∈ l, 0 ≤ f x) : 0 ≤ sm l f := by
  induction l with
  | nil => exact Int.le_refl _
  | cons x l ih =>
    have h1 := h x (by simp)
    have h2 := ih fun y hy => h y (List.mem_cons_of_mem _ hy)
    rw [sm_cons]; omega
theorem sm_le {l : List Nat} {f g : Nat → Int} (h : ∀ x ∈ l, f x ≤ g x) : sm l f ≤ sm l g := by
  induction l with
  | nil => exact Int.le_refl _
  | cons x l ih =>
    have h1 := h x (by simp)
    have h2 := ih fun y hy => h y (List.mem_cons_of_mem _ hy)
    rw [sm_cons, sm_cons]; omega
theorem sm_const (l : List Nat) (c : Int) : sm l (fun _ => c) = l.length * c := by
  induction l with
  | nil => simp [sm_nil]
  | cons x l ih => rw [sm_cons, ih, List.length_cons]; push_cast; rw [Int.add_mul]; omega
theorem sm_swap (l l' : List Nat) (f : Nat → Nat → Int) : sm l (fun x => sm l' (f x)) = sm l' (fun y => sm l fun x => f x y) := by
  induction l with
  | nil => rw [sm_nil]; exact (sm_zero fun _ _ => rfl).symm
  | cons x l ih => simp only [sm_cons, ih, sm_add]
theorem len_le : ∀ {l l' : List Nat}, l.Nodup → (∀ x ∈ l, x ∈ l') → l.length ≤ l'.length
  | [], _, _, _ => Nat.zero_le _
  | x :: l, l', nd, h => by
    rw [List.nodup_cons] at nd
    have hx := h x (by simp)
    have := len_le (l' := l'.erase x) nd.2 fun y hy => (List.mem_erase_of_ne (fun z => by subst z; exact nd.1 hy)).mpr (h y (List.mem_cons_of_mem _ hy))
    rw [List.length_erase_of_mem hx] at this
    have : 0 < l'.length := List.length_pos_of_mem hx
    simp only [List.length_cons]
    omega
/-- a part of the numbers below n, and the rest -/
theorem part_of {n : Nat} {l : List Nat} (nd : l.Nodup) (h : ∀ x ∈ l, x < n) : ∃ r, (l ++ r).Perm (List.range n) ∧ ∀ x ∈ r, x ∉ l ∧ x < n := by
  refine ⟨(List.range n).filter fun x => decide (x ∉ l), ?_, fun x hx => ?_⟩
  · have h1 : l.Perm ((List.range n).filter fun x => decide (x ∈ l)) := by
      rw [List.perm_ext_iff_of_nodup nd (List.nodup_range.filter _)]
      intro x
      simp only [List.mem_filter, List.mem_range, decide_eq_true_eq]
      exact ⟨fun z => ⟨h x z, z⟩, fun z => z.2⟩
    refine (h1.append_right _).trans ?_
    have := List.filter_append_perm (fun x => decide (x ∈ l)) (List.range n)
    simpa using this
  · simp only [List.mem_filter, List.mem_range, decide_eq_true_eq] at hx
    exact ⟨hx.2, hx.1⟩
theorem sm_part_le {n : Nat} {l : List Nat} {f : Nat → Int} (nd : l.Nodup) (h : ∀ x ∈ l, x < n) (p : ∀ x, x < n → 0 ≤ f x) : sm l f ≤ sm (List.range n) f := by
  obtain ⟨r, hp, hr⟩ := part_of nd h
  rw [← sm_perm hp, sm_app]
  have := sm_nonneg (l := r) (f := f) fun x hx => p x (hr x hx).2
  omega
theorem sm_part_eq {n : Nat} {l : List Nat} {f : Nat → Int} (nd : l.Nodup) (h : ∀ x ∈ l, x < n) (p : ∀ x, x < n → x ∉ l → f x = 0) : sm l f = sm (List.range n) f := by
  obtain ⟨r, hp, hr⟩ := part_of nd h
  rw [← sm_perm hp, sm_app, sm_zero (l := r) fun x hx => p x (hr x hx).2 (hr x hx).1]
  omega
theorem sm_one {n a : Nat} {f : Nat → Int} (ha : a < n) (h : ∀ x, x < n → x ≠ a → f x = 0) : sm (List.range n) f = f a := by
  rw [← sm_part_eq (l := [a]) (by simp) (fun x hx => by simp at hx; omega) (fun x hx q => h x hx (by simpa using q))]
  rw [sm_cons, sm_nil]; omega
/-! ### matchings -/
abbrev Mt := List (Nat × Nat)
def get (m : Mt) (c : Nat) : Option Nat := match m with
  | [] => none
  | (k, v) :: r => if k = c then some v else get r c
def put (m : Mt) (c r : Nat) : Mt := match m with
  | [] => [(c, r)]
  | (k, v) :: t => if k = c then (k, r) :: t else (k, v) :: put t c r
abbrev ks (m : Mt) : List Nat := m.map (·.1)
abbrev vs (m : Mt) : List Nat := m.map (·.2)
theorem get_mem {m : Mt} {c r : Nat} (h : get m c = some r) : (c, r) ∈ m := by
  induction m with
  | nil => cases h
  | cons p t ih =>
    obtain ⟨k, v⟩ := p
    simp only [get] at h
    split at h
    · rename_i e
      cases h; subst e; simp
    · exact List.mem_cons_of_mem _ (ih h)
theorem get_none {m : Mt} {c : Nat} : get m c = none ↔ c ∉ ks m := by
  induction m with
  | nil => simp [get]
  | cons p t ih =>
    obtain ⟨k, v⟩ := p
    simp only [get]
    split
    · rename_i e; simp [e]
    · rename_i e
      rw [ih]
      simp [ks]
      exact fun _ => Ne.symm e
theorem mem_get {m : Mt} (nd : (ks m).Nodup) {c r : Nat} (h : (c, r) ∈ m) : get m c = some r := by
  induction m with
  | nil => cases h
  | cons p t ih =>
    obtain ⟨k, v⟩ := p
    rw [ks, List.map_cons, List.nodup_cons] at nd
    simp only [get]
    rcases List.mem_cons.mp h with h | h
    · cases h; simp
    · rw [if_neg]
      · exact ih nd.2 h
      · intro e
        subst e
        exact nd.1 (List.mem_map.mpr ⟨_, h, rfl⟩)
theorem get_put {m : Mt} {c r c' : Nat} : get (put m c r) c' = if c' = c then some r else get m c' := by
  induction m with
  | nil => simp only [put, get, eq_comm]
  | cons p t ih =>
    obtain ⟨k, v⟩ := p
    simp only [put]
    split
    · rename_i e
      subst e
      simp only [get]
      by_cases h : k = c'
      · simp [h]
      · simp [h, Ne.symm h]
    · rename_i e
      simp only [get, ih]
      by_cases h : k = c'
      · subst h; simp [e]
      · simp [h]
theorem ks_put_new {m : Mt} {c r : Nat} (h : c ∉ ks m) : put m c r = m ++ [(c, r)] := by
  induction m with
  | nil => rfl
  | cons p t ih =>
    obtain ⟨k, v⟩ := p
    simp only [ks, List.map_cons, List.mem_cons, not_or] at h
    simp only [put, if_neg (Ne.symm h.1), ih h.2, List.cons_append]
theorem ks_put_old {m : Mt} {c r : Nat} (h : c ∈ ks m) : ks (put m c r) = ks m := by
  induction m with
  | nil => cases h
  | cons p t ih =>
    obtain ⟨k, v⟩ := p
    simp only [put]
    split
    · rfl
    · rename_i e
      simp only [ks, List.map_cons, List.mem_cons] at h ⊢
      rw [show (put t c r).map (·.1) = t.map (·.1) from ih (h.resolve_left (Ne.symm e))]
theorem vs_put_old {m : Mt} {c r o : Nat} (h : get m c = some o) : (o :: vs (put m c r)).Perm (r :: vs m) := by
  induction m with
  | nil => cases h
  | cons p t ih =>
    obtain ⟨k, v⟩ := p
    simp only [get] at h
    simp only [put]
    split at h
    · rename_i e
      cases h
      rw [if_pos e]
      exact List.Perm.swap _ _ _
    · rename_i e
      rw [if_neg e]
      have := ih h
      simp only [vs, List.map_cons] at this ⊢
      exact (List.Perm.swap _ _ _).trans ((this.cons v).trans (List.Perm.swap _ _ _))
theorem mem_put {m : Mt} (nd : (ks m).Nodup) {c r : Nat} {p : Nat × Nat} (h : p ∈ put m c r) : p = (c, r) ∨ (p ∈ m ∧ p.1 ≠ c) := by
  induction m with
  | nil => simp [put] at h; exact .inl h
  | cons q t ih =>
    obtain ⟨k, v⟩ := q
    rw [ks, List.map_cons, List.nodup_cons] at nd
    simp only [put] at h
    split at h
    · rename_i e
      subst e
      rcases List.mem_cons.mp h with h | h
      · exact .inl h
      · exact .inr ⟨List.mem_cons_of_mem _ h, fun z => nd.1 (List.mem_map.mpr ⟨p, h, z⟩)⟩
    · rename_i e
      rcases List.mem_cons.mp h with h | h
      · subst h
        exact .inr ⟨by simp, e⟩
      · rcases ih nd.2 h with h | h
        · exact .inl h
        · exact .inr ⟨List.mem_cons_of_mem _ h.1, h.2⟩
/-! ### one step -/
section
variable (W : Nat → Nat → Int)
def cols (rec : Nat → List Nat → Mt → Bool × List Nat × Mt) (row : Nat) : List Nat → List Nat → Mt → Bool × List Nat × Mt
  | [], seen, m => (false, seen, m)
  | c :: cs, seen, m => if 0 < W row c ∧ c ∉ seen then
      (match get m c with
      | none => (true, seen ++ [c], put m c row)
      | some r => (match rec r (seen ++ [c]) m with
        | (true, s2, m2) => (true, s2, put m2 c row)
        | (false, s2, m2) => cols rec row cs s2 m2))
    else cols rec row cs seen m
def step (n : Nat) : Nat → Nat → List Nat → Mt → Bool × List Nat × Mt
  | 0, _, seen, m => (false, seen, m)
  | k + 1, row, seen, m => cols W (step n k) row (List.range n) seen m
structure Good (n : Nat) (m : Mt) : Prop where
  nd : (ks m).Nodup
  ok : ∀ p ∈ m, p.1 < n ∧ 0 < W p.2 p.1
structure Sn (n : Nat) (seen : List Nat) : Prop where
  nd : seen.Nodup
  lt : ∀ c ∈ seen, c < n
/-- the columns of row are all in s -/
def Cl (n : Nat) (s : List Nat) (row : Nat) : Prop := ∀ c, c < n → 0 < W row c → c ∈ s
/-- what a step has done -/
def Post (n row : Nat) (cs seen : List Nat) (m : Mt) : Bool × List Nat × Mt → Prop
  | (b, s2, m2) => Sn n s2 ∧ (∀ c ∈ seen, c ∈ s2) ∧ (b = true → Good W n m2 ∧ (vs m2).Perm (row :: vs m) ∧ ∀ c ∈ seen, get m2 c = get m c) ∧
    (b = false → m2 = m ∧ (∀ c ∈ cs, 0 < W row c → c ∈ s2) ∧ ∀ c ∈ s2, c ∉ seen → ∃ r, get m c = some r ∧ Cl W n s2 r)
variable {W}
theorem Sn.snoc {n : Nat} {seen : List Nat} (h : Sn n seen) {c : Nat} (hc : c < n) (hn : c ∉ seen) : Sn n (seen ++ [c]) :=
  ⟨by rw [List.nodup_append]; exact ⟨h.nd, by simp, fun a ha b hb z => by simp at hb; subst hb; subst z; exact hn ha⟩, fun x hx => by
    rcases List.mem_append.mp hx with hx | hx
    · exact h.lt x hx
    · simp at hx; omega⟩
theorem cols_ok {n k : Nat} (hrec : ∀ row seen m, Sn n seen → Good W n m → n < seen.length + k → Post W n row (List.range n) seen m (step W n k row seen m)) (row : Nat) :
    ∀ (cs seen : List Nat) (m : Mt), (∀ c ∈ cs, c < n) → Sn n seen → Good W n m → n < seen.length + (k + 1) → Post W n row cs seen m (cols W (step W n k) row cs seen m)
  | [], seen, m, _, hs, hm, _ => ⟨hs, fun _ h => h, by simp, fun _ => ⟨rfl, by simp, fun c h1 h2 => absurd h1 h2⟩⟩
  | c :: cs, seen, m, hc, hs, hm, hk => by
    have hcn := hc c (by simp)
    have hcs : ∀ c ∈ cs, c < n := fun x hx => hc x (List.mem_cons_of_mem _ hx)
    rw [cols]
    by_cases h : 0 < W row c ∧ c ∉ seen
    · rw [if_pos h]
      have hs1 := hs.snoc hcn h.2
      cases hg : get m c with
      | none =>
        have hnk := get_none.mp hg
        refine ⟨hs1, fun x hx => by simp [hx], fun _ => ⟨⟨?_, fun p hp => ?_⟩, ?_, fun x hx => ?_⟩, by simp⟩
        · rw [ks_put_new hnk, ks, List.map_append, List.nodup_append]
          exact ⟨hm.nd, by simp, fun a ha b hb z => by simp at hb; subst hb; subst z; exact hnk ha⟩
        · rcases mem_put hm.nd hp with rfl | ⟨hp, _⟩
          · exact ⟨hcn, h.1⟩
          · exact hm.ok p hp
        · rw [ks_put_new hnk, vs, List.map_append]
          exact List.perm_append_comm
        · rw [get_put, if_neg]
          intro z
          subst z
          exact h.2 hx
      | some r =>
        have P := hrec r (seen ++ [c]) m hs1 hm (by rw [List.length_append]; simp; omega)
        revert P
        show Post W n r (List.range n) (seen ++ [c]) m (step W n k r (seen ++ [c]) m) → Post W n row (c :: cs) seen m (match step W n k r (seen ++ [c]) m with
          | (true, s2, m2) => (true, s2, put m2 c row)
          | (false, s2, m2) => cols W (step W n k) row cs s2 m2)
        generalize step W n k r (seen ++ [c]) m = R
        obtain ⟨b, s2, m2⟩ := R
        intro P
        obtain ⟨p1, p2, p3, p4⟩ := P
        cases b with
        | true =>
          obtain ⟨g1, g2, g3⟩ := p3 rfl
          have e1 : get m2 c = some r := by rw [g3 c (by simp), hg]
          refine ⟨p1, fun x hx => p2 x (by simp [hx]), fun _ => ⟨⟨?_, fun p hp => ?_⟩, ?_, fun x hx => ?_⟩, by simp⟩
          · have : c ∈ ks m2 := by
              have := get_mem e1
              exact List.mem_map.mpr ⟨_, this, rfl⟩
            rw [ks_put_old this]
            exact g1.nd
          · rcases mem_put g1.nd hp with rfl | ⟨hp, _⟩
            · exact ⟨hcn, h.1⟩
            · exact g1.ok p hp
          · have := (vs_put_old (r := row) e1).trans (g2.cons row)
            exact (this.trans (List.Perm.swap _ _ _)).cons_inv
          · rw [get_put, if_neg]
            · exact g3 x (by simp [hx])
            · intro z
              subst z
              exact h.2 hx
        | false =>
          obtain ⟨g1, g2, g3⟩ := p4 rfl
          subst g1
          have hl : seen.length + 1 ≤ s2.length := by
            have : (seen ++ [c]).length ≤ s2.length := by
              exact len_le hs1.nd p2
            simpa using this
          have Q := cols_ok hrec row cs s2 m2 hcs p1 hm (by omega)
          obtain ⟨q1, q2, q3, q4⟩ := Q
          refine ⟨q1, fun x hx => q2 x (p2 x (by simp [hx])), fun hb => ?_, fun hb => ?_⟩
          · obtain ⟨z1, z2, z3⟩ := q3 hb
            exact ⟨z1, z2, fun x hx => z3 x (p2 x (by simp [hx]))⟩
          · obtain ⟨z1, z2, z3⟩ := q4 hb
            refine ⟨z1, fun x hx w => ?_, fun x hx hns => ?_⟩
            · rcases List.mem_cons.mp hx with rfl | hx
              · exact q2 x (p2 x (by simp))
              · exact z2 x hx w
            · by_cases hx2 : x ∈ s2
              · by_cases hxc : x = c
                · subst hxc
                  exact ⟨r, hg, fun y hy w => q2 y (g2 y (List.mem_range.mpr hy) w)⟩
                · obtain ⟨r', e1, e2⟩ := g3 x hx2 (by simp [hns, hxc])
                  exact ⟨r', e1, fun y hy w => q2 y (e2 y hy w)⟩
              · exact z3 x hx hx2
    · rw [if_neg h]
      obtain ⟨q1, q2, q3, q4⟩ := cols_ok hrec row cs seen m hcs hs hm hk
      refine ⟨q1, q2, q3, fun hb => ?_⟩
      obtain ⟨z1, z2, z3⟩ := q4 hb
      refine ⟨z1, fun x hx w => ?_, z3⟩
      rcases List.mem_cons.mp hx with rfl | hx
      · apply Classical.byContradiction
        intro n
        exact h ⟨w, fun hs => n (q2 x hs)⟩
      · exact z2 x hx w
theorem step_ok {n : Nat} : ∀ (k row : Nat) (seen : List Nat) (m : Mt), Sn n seen → Good W n m → n < seen.length + k → Post W n row (List.range n) seen m (step W n k row seen m)
  | 0, row, seen, m, hs, hm, hk => by
    exfalso
    have := len_le (l' := List.range n) hs.nd fun x hx => List.mem_range.mpr (hs.lt x hx)
    rw [List.length_range] at this
    omega
  | k + 1, row, seen, m, hs, hm, hk => cols_ok (fun row seen m h1 h2 h3 => step_ok k row seen m h1 h2 h3) row (List.range n) seen m (fun c hc => List.mem_range.mp hc) hs hm hk
end
/-! ### tables whose rows and columns all have the sum L -/
structure Reg (W : Nat → Nat → Int) (n : Nat) (L : Int) : Prop where
  nn : ∀ r c, r < n → c < n → 0 ≤ W r c
  row : ∀ r, r < n → sm (List.range n) (W r) = L
  col : ∀ c, c < n → sm (List.range n) (fun r => W r c) = L
theorem snd_inj {m : Mt} (h : (vs m).Nodup) {c c' r : Nat} (h1 : (c, r) ∈ m) (h2 : (c', r) ∈ m) : c = c' := by
  induction m with
  | nil => cases h1
  | cons p t ih =>
    rw [vs, List.map_cons, List.nodup_cons] at h
    rcases List.mem_cons.mp h1 with h1 | h1 <;> rcases List.mem_cons.mp h2 with h2 | h2
    · rw [← h1] at h2; exact (congrArg Prod.fst h2).symm
    · exact absurd (List.mem_map.mpr ⟨_, h2, by rw [← h1]⟩) h.1
    · exact absurd (List.mem_map.mpr ⟨_, h1, by rw [← h2]⟩) h.1
    · exact ih h.2 h1 h2
theorem hall {W : Nat → Nat → Int} {n row : Nat} {L : Int} {m : Mt} (R : Reg W n L) (hL : 0 < L) (hm : Good W n m) (hv : (vs m).Nodup) (hvn : ∀ r ∈ vs m, r < n) (hr : row < n) (hrow : row ∉ vs m) {s2 : List Nat} {m2 : Mt} (P : Post W n row (List.range n) [] m (false, s2, m2)) : False := by
  obtain ⟨p1, _, _, p4⟩ := P
  obtain ⟨_, z2, z3⟩ := p4 rfl
  let g : Nat → Nat := fun c => (get m c).getD 0
  have hg : ∀ c ∈ s2, (c, g c) ∈ m ∧ Cl W n s2 (g c) := fun c hc => by
    obtain ⟨r, e1, e2⟩ := z3 c hc (by simp)
    have : g c = r := by simp [g, e1]
    rw [this]
    exact ⟨get_mem e1, e2⟩
  let R' := row :: s2.map g
  have ndm : ∀ l : List Nat, l.Nodup → (∀ c ∈ l, c ∈ s2) → (l.map g).Nodup := by
    intro l
    induction l with
    | nil => intro _ _; exact List.Pairwise.nil
    | cons c l ih =>
      intro nd hl
      rw [List.nodup_cons] at nd
      rw [List.map_cons, List.nodup_cons]
      refine ⟨fun z => ?_, ih nd.2 fun x hx => hl x (List.mem_cons_of_mem _ hx)⟩
      obtain ⟨c', h1, h2⟩ := List.mem_map.mp z
      have a1 := (hg c (hl c (by simp))).1
      have a2 := (hg c' (hl c' (List.mem_cons_of_mem _ h1))).1
      rw [h2] at a2
      have := snd_inj hv a1 a2
      subst this
      exact nd.1 h1
  have nd' : R'.Nodup := by
    rw [List.nodup_cons]
    refine ⟨fun z => ?_, ndm s2 p1.nd fun _ h => h⟩
    obtain ⟨c, h1, h2⟩ := List.mem_map.mp z
    have := (hg c h1).1
    rw [h2] at this
    exact hrow (List.mem_map.mpr ⟨_, this, rfl⟩)
  have lt' : ∀ r ∈ R', r < n := fun r h => by
    rcases List.mem_cons.mp h with rfl | h
    · exact hr
    · obtain ⟨c, h1, h2⟩ := List.mem_map.mp h
      subst h2
      exact hvn _ (List.mem_map.mpr ⟨_, (hg c h1).1, rfl⟩)
  have cl' : ∀ r ∈ R', ∀ c, c < n → 0 < W r c → c ∈ s2 := fun r h => by
    rcases List.mem_cons.mp h with rfl | h
    · exact fun c hc w => z2 c (List.mem_range.mpr hc) w
    · obtain ⟨c, h1, h2⟩ := List.mem_map.mp h
      subst h2
      exact (hg c h1).2
  have e1 : sm R' (fun r => sm (List.range n) (W r)) = ((s2.length : Int) + 1) * L := by
    rw [sm_congr (g := fun _ => L) fun r h => R.row r (lt' r h), sm_const]
    simp [R']
  have e2 : sm R' (fun r => sm (List.range n) (W r)) = sm R' (fun r => sm s2 (W r)) := sm_congr fun r h => (sm_part_eq p1.nd p1.lt fun c hc hn => by
    have h1 := R.nn r c (lt' r h) hc
    have h2 : ¬ 0 < W r c := fun w => hn (cl' r h c hc w)
    omega).symm
  have e3 : sm R' (fun r => sm s2 (W r)) ≤ (s2.length : Int) * L := by
    rw [sm_swap, ← sm_const s2 L]
    refine sm_le fun c hc => ?_
    rw [← R.col c (p1.lt c hc)]
    exact sm_part_le nd' lt' fun r hr => R.nn r c hr (p1.lt c hc)
  rw [e2] at e1
  rw [e1, Int.add_mul] at e3
  omega
/-- all rows, one behind the other -/
def all (W : Nat → Nat → Int) (n : Nat) : List Nat → Mt → Mt
  | [], m => m
  | r :: rs, m => all W n rs (step W n (n + 1) r [] m).2.2
structure Perf (W : Nat → Nat → Int) (n : Nat) (m : Mt) : Prop where
  good : Good W n m
  vals : (vs m).Perm (List.range n)
theorem all_ok {W : Nat → Nat → Int} {n : Nat} {L : Int} (R : Reg W n L) (hL : 0 < L) : ∀ (rs : List Nat) (m : Mt), Good W n m → (rs ++ vs m).Nodup → (∀ r ∈ rs ++ vs m, r < n) → Good W n (all W n rs m) ∧ (vs (all W n rs m)).Perm (rs ++ vs m)
  | [], m, hm, _, _ => ⟨hm, .refl _⟩
  | r :: rs, m, hm, nd, lt => by
    have P := step_ok (W := W) (n + 1) r [] m ⟨by simp, by simp⟩ hm (by simp)
    have hr : r ∉ rs ++ vs m := (List.nodup_cons.mp nd).1
    have ndv : (vs m).Nodup := (List.nodup_append.mp (List.nodup_cons.mp nd).2).2.1
    rw [all]
    revert P
    generalize step W n (n + 1) r [] m = X
    obtain ⟨b, s2, m2⟩ := X
    intro P
    cases b with
    | false => exact (hall R hL hm ndv (fun x hx => lt x (by simp [hx])) (lt r (by simp)) (fun z => hr (by simp [z])) P).elim
    | true =>
      obtain ⟨_, _, p3, _⟩ := P
      obtain ⟨g1, g2, _⟩ := p3 rfl
      have hp : (rs ++ vs m2).Perm (r :: rs ++ vs m) := (g2.append_left rs).trans List.perm_middle
      obtain ⟨a1, a2⟩ := all_ok R hL rs m2 g1 (hp.nodup_iff.mpr nd) (fun x hx => lt x (hp.mem_iff.mp hx))
      exact ⟨a1, a2.trans hp⟩
theorem all_perf {W : Nat → Nat → Int} {n : Nat} {L : Int} (R : Reg W n L) (hL : 0 < L) : Perf W n (all W n (List.range n) []) := by
  obtain ⟨a1, a2⟩ := all_ok R hL (List.range n) [] ⟨by simp, by simp⟩ (by simpa using List.nodup_range) (by simp)
  exact ⟨a1, by simpa using a2⟩
section
variable {W : Nat → Nat → Int} {n : Nat} {m : Mt} (P : Perf W n m)
include P
theorem Perf.nd2 : (vs m).Nodup := P.vals.nodup_iff.mpr List.nodup_range
theorem Perf.ksr : (ks m).Perm (List.range n) := by
  have hl : (ks m).length = n := by
    have := P.vals.length_eq
    simpa using this
  obtain ⟨r, hp, hr⟩ := part_of P.good.nd (n := n) fun c hc => by
    obtain ⟨p, h1, h2⟩ := List.mem_map.mp hc
    subst h2
    exact (P.good.ok p h1).1
  have : r = [] := by
    have := hp.length_eq
    rw [List.length_append, hl, List.length_range] at this
    exact List.length_eq_zero_iff.mp (by omega)
  subst this
  simpa using hp
theorem Perf.of_row {r : Nat} (h : r < n) : ∃ c, c < n ∧ (c, r) ∈ m := by
  have : r ∈ vs m := P.vals.mem_iff.mpr (List.mem_range.mpr h)
  obtain ⟨p, h1, h2⟩ := List.mem_map.mp this
  subst h2
  exact ⟨p.1, (P.good.ok p h1).1, h1⟩
theorem Perf.of_col {c : Nat} (h : c < n) : ∃ r, r < n ∧ (c, r) ∈ m := by
  have : c ∈ ks m := P.ksr.mem_iff.mpr (List.mem_range.mpr h)
  obtain ⟨p, h1, h2⟩ := List.mem_map.mp this
  subst h2
  exact ⟨p.2, List.mem_range.mp (P.vals.mem_iff.mp (List.mem_map.mpr ⟨_, h1, rfl⟩)), h1⟩
theorem Perf.row1 {c c' r : Nat} (h1 : (c, r) ∈ m) (h2 : (c', r) ∈ m) : c = c' := snd_inj P.nd2 h1 h2
theorem Perf.col1 {c r r' : Nat} (h1 : (c, r) ∈ m) (h2 : (c, r') ∈ m) : r = r' := by
  have e1 := mem_get P.good.nd h1
  rw [mem_get P.good.nd h2] at e1
  exact (Option.some.inj e1).symm
end
/-- a matching taken off -/
def off (W : Nat → Nat → Int) (m : Mt) (r c : Nat) : Int := W r c - if (c, r) ∈ m then 1 else 0
theorem off_reg {W : Nat → Nat → Int} {n : Nat} {L : Int} {m : Mt} (R : Reg W n L) (P : Perf W n m) : Reg (off W m) n (L - 1) := by
  refine ⟨fun r c hr hc => ?_, fun r hr => ?_, fun c hc => ?_⟩
  · unfold off
    have := R.nn r c hr hc
    split
    · rename_i h
      have := (P.good.ok _ h).2
      simp only at this
      omega
    · omega
  · have : sm (List.range n) (off W m r) = sm (List.range n) (W r) - sm (List.range n) (fun c => if (c, r) ∈ m then 1 else 0) := sm_sub _ _ _
    rw [this, R.row r hr]
    obtain ⟨c, hc, h⟩ := P.of_row hr
    rw [sm_one hc fun x _ hx => if_neg fun z => hx (P.row1 z h), if_pos h]
  · have : sm (List.range n) (fun r => off W m r c) = sm (List.range n) (fun r => W r c) - sm (List.range n) (fun r => if (c, r) ∈ m then 1 else 0) := sm_sub _ _ _
    rw [this, R.col c hc]
    obtain ⟨r, hr, h⟩ := P.of_col hc
    rw [sm_one hr fun x _ hx => if_neg fun z => hx (P.col1 z h), if_pos h]
/-- day by day -/
def days (n : Nat) : Nat → (Nat → Nat → Int) → List Mt
  | 0, _ => []
  | k + 1, W => all W n (List.range n) [] :: days n k (off W (all W n (List.range n) []))
theorem days_len (n : Nat) : ∀ (k : Nat) (W : Nat → Nat → Int), (days n k W).length = k
  | 0, _ => rfl
  | k + 1, W => by rw [days, List.length_cons, days_len n k]
/-- perfect, for some table -/
def Full (n : Nat) (m : Mt) : Prop := ∃ W, Perf W n m
theorem days_ok {n : Nat} : ∀ (k : Nat) (W : Nat → Nat → Int), Reg W n k → (∀ m ∈ days n k W, Full n m) ∧ ∀ r c, r < n → c < n → W r c = ((days n k W).filter fun m => decide ((c, r) ∈ m)).length
  | 0, W, R => by
    refine ⟨by simp [days], fun r c hr hc => ?_⟩
    have h1 := R.nn r c hr hc
    have h2 := sm_part_le (l := [c]) (f := W r) (n := n) (by simp) (by simpa using hc) fun x hx => R.nn r x hr hx
    rw [R.row r hr, sm_cons, sm_nil] at h2
    simp only [days, List.filter_nil, List.length_nil]
    omega
  | k + 1, W, R => by
    have P := all_perf R (by omega)
    have R2 := off_reg R P
    rw [show (((k + 1 : Nat) : Int) - 1) = (k : Int) by omega] at R2
    obtain ⟨h1, h2⟩ := days_ok k _ R2
    rw [days]
    refine ⟨fun m hm => ?_, fun r c hr hc => ?_⟩
    · rcases List.mem_cons.mp hm with rfl | hm
      · exact ⟨W, P⟩
      · exact h1 m hm
    · have := h2 r c hr hc
      have eo : off W (all W n (List.range n) []) r c = W r c - if (c, r) ∈ all W n (List.range n) [] then 1 else 0 := rfl
      rw [eo] at this
      rw [List.filter_cons]
      by_cases h : (c, r) ∈ all W n (List.range n) []
      · rw [if_pos h] at this
        rw [if_pos (by simpa using h), List.length_cons]
        push_cast
        omega
      · rw [if_neg h] at this
        rw [if_neg (by simpa using h)]
        omega
end Kuhn

set_option linter.all false
set_option maxRecDepth 10000
namespace K68
open QE
open Kuhn (Mt get put ks vs)
def nv (n : Nat) : Val := .int n
def encM (m : Mt) : List (Val × Val) := m.map fun p => (nv p.1, nv p.2)
def sq (o n : Nat) : Val := .lst false ((List.range n).map fun r => .ref (o + r))
def rowO (n : Nat) (f : Nat → Int) : Ob := .lst ((List.range n).map fun c => .int (f c))
/-- the table stands at o -/
def Sq (S : Sto) (o n : Nat) (W : Nat → Nat → Int) : Prop := ∀ r, r < n → S[o + r]? = some (rowO n (W r))
def up (S : Sto) (q t : Nat) (m : Mt) (s : List Nat) : Sto := (S.set q (.dic false (encM m))).set t (.lst (s.map nv))
@[simp] theorem set_nv (n : Nat) : (nv n).settle = nv n := by exact id rfl
@[simp] theorem set_sq (o n : Nat) : (sq o n).settle = sq o n := by exact id rfl
@[simp] theorem int_nv (n : Nat) (S : Sto) : asInt (nv n) S = .ok (n : Int) S := by exact id rfl
theorem ixN_nat {n i : Nat} (h : i < n) : ixN n (i : Int) = some i := by
  have h1 : (0 : Int) ≤ (i : Int) := by omega
  have h2 : (i : Int) < (n : Int) := by omega
  simp [ixN, h1, h2]
theorem atI_nat {α : Type} (xs : List α) {i : Nat} {x : α} (h : xs[i]? = some x) : atI xs (i : Int) = some x := by
  have := (List.getElem?_eq_some_iff.mp h).1
  simp [atI, ixN_nat this, h]
section
variable {S : Sto} {q t : Nat} {m : Mt} {s : List Nat}
theorem up_len : (up S q t m s).length = S.length := by simp [up]
theorem up_q (hq : q < S.length) (h : q ≠ t) : (up S q t m s)[q]? = some (.dic false (encM m)) := by
  unfold up
  rw [List.getElem?_set_ne (fun z => h z.symm), List.getElem?_set_self hq]
theorem up_t (ht : t < S.length) : (up S q t m s)[t]? = some (.lst (s.map nv)) := by
  unfold up
  rw [List.getElem?_set_self (by rw [List.length_set]; exact ht)]
theorem up_o {i : Nat} (h1 : i ≠ q) (h2 : i ≠ t) : (up S q t m s)[i]? = S[i]? := by
  unfold up
  rw [List.getElem?_set_ne (fun z => h2 z.symm), List.getElem?_set_ne (fun z => h1 z.symm)]
theorem up_setT (s' : List Nat) : (up S q t m s).set t (.lst (s'.map nv)) = up S q t m s' := by
  unfold up
  rw [List.set_set]
theorem up_setQ (h : q ≠ t) (m' : Mt) : (up S q t m s).set q (.dic false (encM m')) = up S q t m' s := by
  unfold up
  rw [List.set_comm _ _ (fun z => h z.symm), List.set_set]
end
theorem key_nv (a b : Nat) : keyEq (nv a) (nv b) = decide (a = b) := by
  show ((a : Int) == (b : Int)) = _
  by_cases h : a = b
  · subst h; simp
  · rw [decide_eq_false h]
    exact beq_eq_false_iff_ne.mpr (by omega)
theorem dGet_enc (c : Nat) : ∀ m : Mt, dGet (nv c) (encM m) = (get m c).map nv
  | [] => rfl
  | (k, v) :: m => by
    show (if keyEq (nv k) (nv c) then some (nv v) else dGet (nv c) (encM m)) = (if k = c then some v else get m c).map nv
    rw [key_nv, dGet_enc c m]
    by_cases h : k = c <;> simp [h]
theorem dHas_enc (c : Nat) : ∀ m : Mt, dHas (nv c) (encM m) = decide (c ∈ ks m)
  | [] => rfl
  | (k, v) :: m => by
    show (keyEq (nv k) (nv c) || dHas (nv c) (encM m)) = _
    rw [key_nv, dHas_enc c m]
    by_cases h : k = c
    · simp [h]
    · have : c ≠ k := fun z => h z.symm
      simp [h, this]
theorem dMap_no (c : Nat) (x : Val) : ∀ m : Mt, c ∉ ks m → dMap (nv c) x (encM m) = encM m
  | [], _ => rfl
  | (k, v) :: m, h => by
    simp only [List.map_cons, List.mem_cons, not_or] at h
    show (if keyEq (nv k) (nv c) then (nv k, x) else (nv k, nv v)) :: dMap (nv c) x (encM m) = (nv k, nv v) :: encM m
    rw [key_nv, decide_eq_false (fun z => h.1 z.symm), dMap_no c x m h.2]
    rfl
theorem dPut_enc (c r : Nat) : ∀ m : Mt, (ks m).Nodup → dPut (nv c) (nv r) (encM m) = encM (put m c r)
  | [], _ => rfl
  | (k, v) :: m, nd => by
    simp only [List.map_cons, List.nodup_cons] at nd
    have ih := dPut_enc c r m nd.2
    unfold dPut at ih ⊢
    rw [dHas_enc] at ih
    show (if (keyEq (nv k) (nv c) || dHas (nv c) (encM m)) then (if keyEq (nv k) (nv c) then (nv k, nv r) else (nv k, nv v)) :: dMap (nv c) (nv r) (encM m) else (nv k, nv v) :: (encM m ++ [(nv c, nv r)])) = _
    rw [key_nv, dHas_enc]
    by_cases h : k = c
    · subst h
      simp only [decide_true, Bool.true_or, if_true, dMap_no k (nv r) m nd.1]
      simp [put, encM]
    · simp only [decide_eq_false h, Bool.false_or, Bool.false_eq_true, if_false]
      by_cases h2 : c ∈ ks m
      · simp only [h2, decide_true, if_true] at ih ⊢
        rw [ih]
        simp [put, h, encM]
      · simp only [h2, decide_false, Bool.false_eq_true, if_false] at ih ⊢
        rw [ih]
        simp [put, h, encM]
theorem it_sq {r n : Nat} (h : r < n) (o : Nat) (S : Sto) : item S (sq o n) (nv r) = some (.ref (o + r)) := by
  show itemOf _ (.int (r : Int)) = _
  exact atI_nat _ (by simp [h])
theorem it_row {S : Sto} {a n : Nat} {f : Nat → Int} (hS : S[a]? = some (rowO n f)) {c : Nat} (h : c < n) : item S (.ref a) (nv c) = some (.int (f c)) := by
  simp only [item, asList, hS, rowO]
  exact atI_nat _ (by simp [h])
theorem it_dic {S : Sto} {q : Nat} {m : Mt} (hS : S[q]? = some (.dic false (encM m))) (c : Nat) : item S (.ref q) (nv c) = (get m c).map nv := by
  simp only [item, asList, asDic, hS, itemDic]
  rw [if_pos (show (nv c).isKey false = true from rfl), dGet_enc]
theorem nin_dic {S : Sto} {q : Nat} {m : Mt} (hS : S[q]? = some (.dic false (encM m))) (c : Nat) : QE.cmp S .nin (nv c) (.ref q) = some (!(get m c).isSome) := by
  simp only [QE.cmp, isIn, asList, asDic, hS, hasDic]
  rw [if_pos (show (nv c).isKey false = true from rfl), dGet_enc]
  simp [nt]
theorem any_nv (i : Nat) : ∀ l : List Nat, ((l.map nv).any fun y => y.eqv (nv i)) = decide (i ∈ l)
  | [] => rfl
  | x :: l => by
    rw [List.map_cons, List.any_cons, any_nv i l]
    have : (nv x).eqv (nv i) = decide (i = x) := by
      show ((x : Int) == (i : Int)) = _
      by_cases h : i = x
      · subst h; simp
      · rw [decide_eq_false h]
        exact beq_eq_false_iff_ne.mpr (by omega)
    rw [this]
    by_cases h : i = x <;> simp [h]
theorem chk_nv (d : Nat) : ∀ l : List Nat, Val.chkL d (l.map nv) = true
  | [] => by simp [Val.chkL]
  | x :: l => by simp [Val.chkL, nv, Val.chk, chk_nv d l]
theorem lowL_nv (b : Nat) : ∀ l : List Nat, Val.lowL b (l.map nv) = true
  | [] => by simp [Val.lowL]
  | x :: l => by simp [Val.lowL, nv, Val.low, lowL_nv b l]
theorem nin_list {S : Sto} {t : Nat} {s : List Nat} (hS : S[t]? = some (.lst (s.map nv))) (c : Nat) : QE.cmp S .nin (nv c) (.ref t) = some (!decide (c ∈ s)) := by
  simp only [QE.cmp, isIn, asList, hS, anyEq, chk_nv, any_nv]
  rw [if_pos (by simp [nv, Val.chk])]
  rfl
theorem range_nv (n : Nat) : rangeV 0 n = (List.range n).map nv := by
  rw [rangeV_map]
  apply List.map_congr_left
  intro i _
  show Val.int (0 + (i : Int)) = Val.int (i : Int)
  rw [Int.zero_add]
theorem rng_ok (S : Sto) (n : Nat) (h : n ≤ 100000) : rangeOf S 0 (n : Int) = .ok ((List.range n).map nv) S := by
  unfold rangeOf
  rw [if_pos (by omega)]
  simp [range_nv]
/-! ### one step of the matching -/
def colsBody : List Stm := [(.if_ (.and [(.cmp .gt (.idx (.idx (.var 0) (.var 1)) (.var 4)) (.lit (.int 0))), (.cmp .nin (.var 4) (.var 2))]) [(.expr (.append (.var 2) (.var 4))), (.if_ (.or [(.cmp .nin (.var 4) (.var 3)), (.call 9 [(.var 0), (.idx (.var 3) (.var 4)), (.var 2), (.var 3)])]) [(.setIx (.var 3) (.var 4) (.var 1)), (.ret (.lit (.bl true)))] [])] [])]
theorem d_step_body : d_step.body = [(.for_ (.name 4) (.rng1 (.bi .len [(.var 0)])) colsBody), (.ret (.lit (.bl false)))] := rfl
section
variable {W : Nat → Nat → Int} {S : Sto} {o n q t : Nat}
/-- what the store must be for a step -/
structure Rdy (W : Nat → Nat → Int) (S : Sto) (o n q t : Nat) : Prop where
  sq : Sq S o n W
  hq : q < S.length
  ht : t < S.length
  ne : q ≠ t
  oq : ∀ r, r < n → o + r ≠ q
  ot : ∀ r, r < n → o + r ≠ t
  nn : n ≤ 1000
theorem Rdy.row (R : Rdy W S o n q t) {r : Nat} (h : r < n) (m : Mt) (s : List Nat) : (up S q t m s)[o + r]? = some (rowO n (W r)) := by
  rw [up_o (R.oq r h) (R.ot r h)]
  exact R.sq r h
def env5 (o n row t q : Nat) (x4 : Option Val) : Env := [some (sq o n), some (nv row), some (.ref t), some (.ref q), x4]
/-- what the loop over columns comes to -/
def outC (o n row t q : Nat) (S : Sto) (y : Option Val) : Bool × List Nat × Mt → R (Fl × Env)
  | (true, s, m) => .ok (.rt (.bl true), env5 o n row t q y) (up S q t m s)
  | (false, s, m) => .ok (.nx, env5 o n row t q y) (up S q t m s)
theorem app_seen (R : Rdy W S o n q t) (m : Mt) (s : List Nat) (hs : s.length ≤ 1000) (b : Nat) (hb : t < b ∨ True) (c : Nat) :
    QE.append b (up S q t m s) (.ref t) (nv c) = .ok .non (up S q t m (s ++ [c])) := by
  have h1 := up_t (S := S) (q := q) (m := m) (s := s) R.ht
  have h2 : s.length < lim := by simp only [lim]; omega
  have h3 := up_setT (S := S) (q := q) (t := t) (m := m) (s := s) (s ++ [c])
  rw [List.map_append] at h3
  simp only [List.map_cons, List.map_nil] at h3
  simp [QE.append, h1, h2, mayPut, nv, Val.low]
  exact h3
theorem put_match (R : Rdy W S o n q t) (m : Mt) (nd : (ks m).Nodup) (hl : m.length ≤ 1000) (s : List Nat) (b c r : Nat) :
    QE.setIx b (up S q t m s) (.ref q) (nv c) (nv r) = .ok () (up S q t (put m c r) s) := by
  have h1 := up_q (S := S) (q := q) (m := m) (s := s) R.hq R.ne
  have h2 : (encM m).length < lim := by simp only [encM, List.length_map, lim]; omega
  have h3 := up_setQ (S := S) (m := m) (s := s) R.ne (put m c r)
  simp only [QE.setIx, h1]
  rw [if_pos (by simp [h2, mayPut, nv, Val.low, Val.isKey, Val.flatKey])]
  rw [set_nv, dPut_enc c r m nd, h3]
end
end K68

set_option linter.all false
set_option maxRecDepth 10000
namespace K68
open QE
open Kuhn (Mt get put ks vs Sn Good Post)
section
variable {W : Nat → Nat → Int} {S : Sto} {o n q t : Nat}
theorem good_len {m : Mt} (h : Good W n m) : m.length ≤ n := by
  have := Kuhn.len_le (l := ks m) (l' := List.range n) h.nd fun x hx => by
    simp only [List.mem_map] at hx
    obtain ⟨p, hp, rfl⟩ := hx
    exact List.mem_range.mpr (h.ok p hp).1
  simpa using this
theorem sn_len {s : List Nat} (h : Sn n s) : s.length ≤ n := by
  have := Kuhn.len_le (l := s) (l' := List.range n) h.nd fun x hx => List.mem_range.mpr (h.lt x hx)
  simpa using this
def StepAt (W : Nat → Nat → Int) (S : Sto) (o n q t k K : Nat) : Prop := ∀ (row : Nat) (seen : List Nat) (m : Mt), Sn n seen → Good W n m → (∀ r ∈ vs m, r < n) → row < n → n < seen.length + k →
  callFn prog K 9 [sq o n, nv row, .ref t, .ref q] (up S q t m seen) = .ok (.bl (Kuhn.step W n k row seen m).1) (up S q t (Kuhn.step W n k row seen m).2.2 (Kuhn.step W n k row seen m).2.1)
theorem env5_set (row : Nat) (x4 : Option Val) (c : Nat) : (env5 o n row t q x4).set 4 (some (nv c).settle) = env5 o n row t q (some (nv c)) := rfl
theorem cols_run {k K : Nat} (R : Rdy W S o n q t) (hrec : StepAt W S o n q t k K) (row : Nat) (hrow : row < n) : ∀ (cs seen : List Nat) (m : Mt) (x4 : Option Val), (∀ c ∈ cs, c < n) → Sn n seen → Good W n m → (∀ r ∈ vs m, r < n) → n < seen.length + (k + 1) →
    ∃ y, forLoop (.name 4) (execSs (cxt prog K S.length) colsBody) (cs.map nv) (env5 o n row t q x4) (up S q t m seen) = outC o n row t q S y (Kuhn.cols W (Kuhn.step W n k) row cs seen m)
  | [], seen, m, x4, _, _, _, _, _ => ⟨x4, rfl⟩
  | c :: cs, seen, m, x4, hcs, hs, hm, hv, hk => by
    have hc := hcs c (by simp)
    have hcs' : ∀ x ∈ cs, x < n := fun x hx => hcs x (List.mem_cons_of_mem _ hx)
    have hsl := sn_len hs
    have hml := good_len hm
    have hn := R.nn
    have f1 := it_sq hrow o (up S q t m seen)
    have f2 := it_row (R.row hrow m seen) hc
    have f3 : QE.cmp (up S q t m seen) .gt (.int (W row c)) (.int 0) = some (decide (0 < W row c)) := rfl
    have f4 := nin_list (up_t (S := S) (q := q) (m := m) (s := seen) R.ht) c
    by_cases hT : 0 < W row c ∧ c ∉ seen
    · have f5 := app_seen R m seen (by omega) S.length (.inr trivial) c
      have ht1 := up_t (S := S) (q := q) (m := m) (s := seen) R.ht
      have hal : asList (up S q t m seen) (.ref t) = some (seen.map nv) := by simp [asList, ht1]
      have hs1 := hs.snoc hc hT.2
      have hq1 := up_q (S := S) (q := q) (t := t) (m := m) (s := seen ++ [c]) R.hq R.ne
      have f6 := nin_dic hq1 c
      have hd0 : decide (0 < W row c) = true := decide_eq_true hT.1
      have hd1 : decide (c ∈ seen) = false := decide_eq_false hT.2
      rw [hd0] at f3
      rw [hd1] at f4
      cases hg : get m c with
      | none =>
        have f7 := put_match R m hm.nd (by omega) (seen ++ [c]) S.length c row
        rw [hg] at f6
        refine ⟨some (nv c), ?_⟩
        have ec : Kuhn.cols W (Kuhn.step W n k) row (c :: cs) seen m = (true, seen ++ [c], put m c row) := by
          rw [Kuhn.cols, if_pos hT]
          simp only [hg]
        rw [ec]
        simp only [List.map_cons, forLoop, bind_name, List.set_cons_succ, List.set_cons_zero, colsBody, xs_cons, xs_nil, x_if, ev_and, ea_cons, ea_nil, ev_cmp, ev_idx, ev_var, ev_lit, env5, List.getElem?_cons_succ, List.getElem?_cons_zero, QE.R.bind_okS, f1, f2, f3, f4, QE.R.of_some, QE.R.calm_okS, bl_ok, if_true, Bool.not_false, x_expr, ev_append, hal, cxt_base, set_nv, f5, ev_or, eor_cons, eor_nil, f6, Option.isSome_none, x_setIx, f7, x_ret]
        rfl
      | some r =>
        rw [hg] at f6
        have hr : r < n := hv r (by
          have := Kuhn.get_mem hg
          exact List.mem_map.mpr ⟨_, this, rfl⟩)
        have f8 := it_dic hq1 c
        rw [hg] at f8
        have hcall := hrec r (seen ++ [c]) m hs1 hm hv hr (by simp; omega)
        have P := Kuhn.step_ok (W := W) (n := n) k r (seen ++ [c]) m hs1 hm (by simp; omega)
        have ec : Kuhn.cols W (Kuhn.step W n k) row (c :: cs) seen m = (match Kuhn.step W n k r (seen ++ [c]) m with
            | (true, s2, m2) => (true, s2, put m2 c row)
            | (false, s2, m2) => Kuhn.cols W (Kuhn.step W n k) row cs s2 m2) := by
          rw [Kuhn.cols, if_pos hT]
          simp only [hg]
          try rfl
        rw [ec]
        revert hcall P
        generalize Kuhn.step W n k r (seen ++ [c]) m = X
        obtain ⟨b, s2, m2⟩ := X
        intro hcall P
        simp only at hcall
        obtain ⟨P1, P2, P3, P4⟩ := P
        have hs2 := sn_len P1
        cases b with
        | true =>
          obtain ⟨g2, _, _⟩ := P3 rfl
          have hl2 := good_len g2
          have f7 := put_match R m2 g2.nd (by omega) s2 S.length c row
          refine ⟨some (nv c), ?_⟩
          simp only [List.map_cons, forLoop, bind_name, List.set_cons_succ, List.set_cons_zero, colsBody, xs_cons, xs_nil, x_if, ev_and, ea_cons, ea_nil, ev_cmp, ev_idx, ev_var, ev_lit, env5, List.getElem?_cons_succ, List.getElem?_cons_zero, QE.R.bind_okS, f1, f2, f3, f4, QE.R.of_some, QE.R.calm_okS, bl_ok, if_true, Bool.not_false, x_expr, ev_append, hal, cxt_base, set_nv, f5, ev_or, eor_cons, eor_nil, f6, Option.isSome_some, Bool.not_true, Bool.false_eq_true, if_false, ev_call, es_cons, es_nil, f8, Option.map_some, set_sq, set_ref, cxt_call, hcall, x_setIx, f7, x_ret]
          rfl
        | false =>
          obtain ⟨em, _, _⟩ := P4 rfl
          subst em
          have hlen : (seen ++ [c]).length ≤ s2.length := Kuhn.len_le hs1.nd P2
          simp only [List.length_append, List.length_cons, List.length_nil] at hlen
          obtain ⟨y, hy⟩ := cols_run R hrec row hrow cs s2 m2 (some (nv c)) hcs' P1 hm hv (by omega)
          refine ⟨y, ?_⟩
          simp only [env5, colsBody] at hy
          simp only [List.map_cons, forLoop, bind_name, List.set_cons_succ, List.set_cons_zero, colsBody, xs_cons, xs_nil, x_if, ev_and, ea_cons, ea_nil, ev_cmp, ev_idx, ev_var, ev_lit, env5, List.getElem?_cons_succ, List.getElem?_cons_zero, QE.R.bind_okS, f1, f2, f3, f4, QE.R.of_some, QE.R.calm_okS, bl_ok, if_true, Bool.not_false, x_expr, ev_append, hal, cxt_base, set_nv, f5, ev_or, eor_cons, eor_nil, f6, Option.isSome_some, Bool.not_true, Bool.false_eq_true, if_false, ev_call, es_cons, es_nil, f8, Option.map_some, set_sq, set_ref, cxt_call, hcall, hy]
    · obtain ⟨y, hy⟩ := cols_run R hrec row hrow cs seen m (some (nv c)) hcs' hs hm hv hk
      have ec : Kuhn.cols W (Kuhn.step W n k) row (c :: cs) seen m = Kuhn.cols W (Kuhn.step W n k) row cs seen m := by
        rw [Kuhn.cols, if_neg hT]
      rw [ec]
      refine ⟨y, ?_⟩
      simp only [env5, colsBody] at hy
      by_cases h0 : 0 < W row c
      · have h1 : c ∈ seen := Classical.byContradiction fun z => hT ⟨h0, z⟩
        rw [decide_eq_true h0] at f3
        rw [decide_eq_true h1] at f4
        simp only [List.map_cons, forLoop, bind_name, List.set_cons_succ, List.set_cons_zero, colsBody, xs_cons, xs_nil, x_if, ev_and, ea_cons, ea_nil, ev_cmp, ev_idx, ev_var, ev_lit, env5, List.getElem?_cons_succ, List.getElem?_cons_zero, QE.R.bind_okS, f1, f2, f3, f4, QE.R.of_some, QE.R.calm_okS, bl_ok, set_nv, if_true, Bool.not_true, Bool.false_eq_true, if_false, hy]
      · rw [decide_eq_false h0] at f3
        simp only [List.map_cons, forLoop, bind_name, List.set_cons_succ, List.set_cons_zero, colsBody, xs_cons, xs_nil, x_if, ev_and, ea_cons, ea_nil, ev_cmp, ev_idx, ev_var, ev_lit, env5, List.getElem?_cons_succ, List.getElem?_cons_zero, QE.R.bind_okS, f1, f2, f3, QE.R.of_some, QE.R.calm_okS, bl_ok, set_nv, Bool.false_eq_true, if_false, hy]
theorem step_at (R : Rdy W S o n q t) (d : Nat) : ∀ k : Nat, StepAt W S o n q t k (k + d)
  | 0 => fun row seen m hs _ _ _ hk => by
    have := sn_len hs
    omega
  | k + 1 => fun row seen m hs hm hv hrow hk => by
    have hd : k + 1 + d = (k + d) + 1 := by omega
    rw [hd, run_fn (d := d_step) rfl rfl]
    have ih := step_at R d k
    have hlen : callBi (up S q t m seen) .len [sq o n] = some (nv n) := by simp [callBi, lenOf, asSeq, asList, sq, nv]
    obtain ⟨y, hy⟩ := cols_run R ih row hrow (List.range n) seen m none (fun c hc => List.mem_range.mp hc) hs hm hv hk
    have e0 : (up S q t m seen).length = S.length := up_len
    have hn := R.nn
    have hrng := rng_ok (up S q t m seen) n (by omega)
    rw [e0]
    show finish S.length (execSs (cxt prog (k + d) S.length) d_step.body (env5 o n row t q none) (up S q t m seen)) = _
    have hfor := x_for (c := cxt prog (k + d) S.length) (env := env5 o n row t q none) (S := up S q t m seen) (src := .rng1 (.bi .len [(.var 0)])) (tg := .name 4) (body := colsBody) (xs := (List.range n).map nv) (S1 := up S q t m seen) (by
      simp only [sr_1, ev_bi, es_cons, es_nil, ev_var, env5, List.getElem?_cons_zero, QE.R.bind_okS, set_sq, hlen, QE.R.of_some, int_nv]
      exact hrng) hy
    rw [d_step_body, Kuhn.step]
    revert hfor
    generalize Kuhn.cols W (Kuhn.step W n k) row (List.range n) seen m = X
    obtain ⟨b, s2, m2⟩ := X
    intro hfor
    cases b with
    | true =>
      rw [xs_cons, hfor]
      simp only [outC, QE.R.bind_okS, finish, up_len, Nat.le_refl, if_true]
    | false =>
      rw [xs_cons, hfor]
      simp only [outC, QE.R.bind_okS, xs_cons, x_ret, ev_lit, QE.R.calm_okS, finish, up_len, Nat.le_refl, if_true]
end
end K68

set_option linter.all false
set_option maxRecDepth 10000
namespace K68
open QE
open Kuhn (Mt get put ks vs Sn Good Post)
def mst (S : Sto) (m : Mt) (J : Sto) : Sto := S ++ (.dic false (encM m) :: J)
theorem mst_snoc (S : Sto) (m : Mt) (J : Sto) (x : Ob) : mst S m J ++ [x] = mst S m (J ++ [x]) := by simp [mst]
theorem mst_len (S : Sto) (m : Mt) (J : Sto) : (mst S m J).length = S.length + 1 + J.length := by simp [mst]; omega
theorem mst_up (S : Sto) (m m' : Mt) (J : Sto) (s : List Nat) (x : Ob) : up (mst S m (J ++ [x])) S.length (S.length + 1 + J.length) m' s = mst S m' (J ++ [.lst (s.map nv)]) := by
  unfold up mst
  rw [List.set_append_right _ _ (Nat.le_refl _), Nat.sub_self, List.set_cons_zero, List.set_append_right _ _ (by omega)]
  congr 1
  rw [show S.length + 1 + J.length - S.length = J.length + 1 by omega, List.set_cons_succ, List.set_append_right _ _ (Nat.le_refl _), Nat.sub_self, List.set_cons_zero]
theorem up_same (S : Sto) (m : Mt) (J : Sto) : up (mst S m (J ++ [.lst []])) S.length (S.length + 1 + J.length) m [] = mst S m (J ++ [.lst []]) := mst_up S m m J [] (.lst [])
theorem lowD_enc (b : Nat) : ∀ m : Mt, Val.lowD b (encM m) = true
  | [] => by simp [encM, Val.lowD]
  | p :: m => by
    show (Val.low b (nv p.2) && Val.lowD b (encM m)) = true
    rw [lowD_enc b m]
    rfl
theorem Sq.lt {S : Sto} {o n : Nat} {W : Nat → Nat → Int} (h : Sq S o n W) {r : Nat} (hr : r < n) : o + r < S.length := (List.getElem?_eq_some_iff.mp (h r hr)).1
section
variable {W : Nat → Nat → Int} {S : Sto} {o n : Nat}
theorem rdy (h : Sq S o n W) (hn : n ≤ 1000) (m : Mt) (J : Sto) (x : Ob) : Rdy W (mst S m (J ++ [x])) o n S.length (S.length + 1 + J.length) where
  sq := fun r hr => by
    have := h.lt hr
    unfold mst
    rw [List.getElem?_append_left this]
    exact h r hr
  hq := by rw [mst_len]; omega
  ht := by rw [mst_len]; simp
  ne := by omega
  oq := fun r hr => by have := h.lt hr; omega
  ot := fun r hr => by have := h.lt hr; omega
  nn := hn
def matBody : List Stm := [(.xcall (.call 9 [(.var 0), (.var 2), (.cell (.list [])), (.var 1)]))]
theorem mat_loop (h : Sq S o n W) (hn : n ≤ 1000) (K : Nat) (hK : n + 1 ≤ K) : ∀ (rs : List Nat) (m : Mt) (J : Sto) (x2 : Option Val), (∀ r ∈ rs, r < n) → Good W n m → (∀ r ∈ vs m, r < n) →
    ∃ (J' : Sto) (y2 : Option Val), forLoop (.name 2) (execSs (cxt prog K S.length) matBody) (rs.map nv) [some (sq o n), some (.ref S.length), x2] (mst S m J) = .ok (.nx, [some (sq o n), some (.ref S.length), y2]) (mst S (Kuhn.all W n rs m) J')
  | [], m, J, x2, _, _, _ => ⟨J, x2, rfl⟩
  | r :: rs, m, J, x2, hr, hm, hv => by
    have hr0 := hr r (by simp)
    have R := rdy h hn m J (.lst [])
    obtain ⟨d, rfl⟩ : ∃ d, K = n + 1 + d := ⟨K - (n + 1), by omega⟩
    have hs : Sn n [] := ⟨by simp, by simp⟩
    have hc := step_at R d (n + 1) r [] m hs hm hv hr0 (by simp)
    rw [up_same] at hc
    rw [mst_up] at hc
    have P := Kuhn.step_ok (W := W) (n := n) (n + 1) r [] m hs hm (by simp)
    have hml : (mst S m J).length = S.length + 1 + J.length := mst_len S m J
    rw [Kuhn.all]
    revert hc P
    generalize Kuhn.step W n (n + 1) r [] m = X
    obtain ⟨b, s2, m2⟩ := X
    intro hc P
    obtain ⟨_, _, P3, P4⟩ := P
    have hg : Good W n m2 ∧ ∀ r ∈ vs m2, r < n := by
      cases b with
      | true =>
        obtain ⟨g1, g2, _⟩ := P3 rfl
        refine ⟨g1, fun x hx => ?_⟩
        rcases List.mem_cons.mp (g2.mem_iff.mp hx) with e | e
        · rw [e]; exact hr0
        · exact hv x e
      | false =>
        obtain ⟨e, _⟩ := P4 rfl
        rw [e]
        exact ⟨hm, hv⟩
    obtain ⟨J', y2, hl⟩ := mat_loop h hn (n + 1 + d) hK rs m2 (J ++ [.lst (s2.map nv)]) (some (nv r)) (fun x hx => hr x (List.mem_cons_of_mem _ hx)) hg.1 hg.2
    refine ⟨J', y2, ?_⟩
    simp only at hc
    have l0 : (0 : Nat) ≤ lim := Nat.zero_le _
    simp only [matBody] at hl
    simp only [List.map_cons, forLoop, bind_name, set_nv, List.set_cons_succ, List.set_cons_zero, matBody, xs_cons, xs_nil, x_xcall, eX_call, es_cons, es_nil, ev_var, List.getElem?_cons_succ, List.getElem?_cons_zero, QE.R.bind_okS, ev_cell, ev_list, List.length_nil, l0, if_true, newCell, mst_snoc, hml, QE.R.calm_okS, set_sq, set_ref, cxt_call, hc, hl]
theorem mat (h : Sq S o n W) (hn : n ≤ 1000) (K : Nat) (hK : n + 1 ≤ K) : callFn prog (K + 1) 10 [sq o n] S = .ok (.dic true false (encM (Kuhn.all W n (List.range n) []))) S := by
  rw [run_fn (d := d_matching) rfl rfl]
  obtain ⟨J, y, hl⟩ := mat_loop h hn K hK (List.range n) [] [] none (fun r hr => List.mem_range.mp hr) ⟨by simp, by simp⟩ (by simp)
  have hlen : ∀ S : Sto, callBi S .len [sq o n] = some (nv n) := fun S => by simp [callBi, lenOf, asSeq, asList, sq, nv]
  have hrng := rng_ok (mst S [] []) n (by omega)
  have hfor := x_for (c := cxt prog K S.length) (env := [some (sq o n), some (.ref S.length), none]) (S := mst S [] []) (src := .rng1 (.bi .len [(.var 0)])) (tg := .name 2) (body := matBody) (xs := (List.range n).map nv) (S1 := mst S [] []) (by
    simp only [sr_1, ev_bi, es_cons, es_nil, ev_var, List.getElem?_cons_zero, QE.R.bind_okS, set_sq, hlen, QE.R.of_some, int_nv]
    exact hrng) hl
  have hfin : ∀ (m : Mt) (J : Sto) (e : Env), finish S.length (.ok (.rt (.ref S.length), e) (mst S m J)) = .ok (.dic true false (encM m)) S := fun m J e => by
    have h1 : ¬ (mst S m J).length ≤ S.length := by rw [mst_len]; omega
    simp only [finish, h1, if_false, freeze, freeze1, Nat.lt_irrefl, mst, List.getElem?_append_right (Nat.le_refl _), Nat.sub_self, List.getElem?_cons_zero, lowD_enc, if_true]
    simp
  refine Eq.trans (congrArg (finish S.length) ?_) (hfin (Kuhn.all W n (List.range n) []) J [some (sq o n), some (.ref S.length), y])
  refine ss_step (env' := [some (sq o n), some (.ref S.length), none]) (S' := mst S [] []) (by
    simp only [x_asg, ev_cell, ev_dnew, QE.R.bind_okS, newCell, QE.R.calm_okS, bind_name, set_ref, QE.R.of_some]
    rfl) ?_
  refine ss_step hfor ?_
  simp only [xs_cons, x_ret, ev_var, List.getElem?_cons_succ, List.getElem?_cons_zero, QE.R.calm_okS, QE.R.bind_okS]
end
end K68

set_option linter.all false
set_option maxRecDepth 10000
namespace K68
open QE
/-! ### wants -/
def rowV (p : Nat) (g : Nat → Nat) : Val := .tup ((List.range p).map fun c => nv (g c))
def encF (s p : Nat) (f : Nat → Nat → Nat) : Val := .tup ((List.range s).map fun r => rowV p (f r))
structure VF (s p : Nat) (f : Nat → Nat → Nat) : Prop where
  s1 : 1 ≤ s
  s2 : s ≤ 10
  p1 : 1 ≤ p
  p2 : p ≤ 10
  le : ∀ r c, r < s → c < p → f r c ≤ 12
def sumN (n : Nat) (g : Nat → Nat) : Nat := ((List.range n).map g).sum
def rS (p : Nat) (f : Nat → Nat → Nat) (r : Nat) : Nat := sumN p (f r)
def cS (s : Nat) (f : Nat → Nat → Nat) (c : Nat) : Nat := sumN s fun r => f r c
def mx (l : List Nat) : Nat := l.foldl max 0
def load (s p : Nat) (f : Nat → Nat → Nat) : Nat := mx ((List.range s).map (rS p f) ++ (List.range p).map (cS s f))
@[simp] theorem set_rowV (p : Nat) (g : Nat → Nat) : (rowV p g).settle = rowV p g := by exact id rfl
@[simp] theorem set_encF (s p : Nat) (f : Nat → Nat → Nat) : (encF s p f).settle = encF s p f := by exact id rfl
theorem it_row' {p c : Nat} (h : c < p) (g : Nat → Nat) (S : Sto) : item S (rowV p g) (nv c) = some (nv (g c)) := by
  show itemOf _ (.int (c : Int)) = _
  exact atI_nat _ (by simp [h])
theorem it_enc {s r : Nat} (h : r < s) (p : Nat) (f : Nat → Nat → Nat) (S : Sto) : item S (encF s p f) (nv r) = some (rowV p (f r)) := by
  show itemOf _ (.int (r : Int)) = _
  exact atI_nat _ (by simp [h])
theorem it_enc0 {s : Nat} (h : 0 < s) (p : Nat) (f : Nat → Nat → Nat) (S : Sto) : item S (encF s p f) (.int 0) = some (rowV p (f 0)) := it_enc h p f S
theorem len_enc (s p : Nat) (f : Nat → Nat → Nat) (S : Sto) : callBi S .len [encF s p f] = some (nv s) := by simp [callBi, lenOf, asSeq, encF, nv]
theorem len_rowV (p : Nat) (g : Nat → Nat) (S : Sto) : callBi S .len [rowV p g] = some (nv p) := by simp [callBi, lenOf, asSeq, rowV, nv]
theorem cast_sum (g : Nat → Nat) : ∀ l : List Nat, (l.map fun c => (g c : Int)).sum = ((l.map g).sum : Nat)
  | [] => rfl
  | x :: l => by
    have := cast_sum g l
    simp only [List.map_cons, List.sum_cons, this]
    push_cast
    rfl
theorem ints_nv (g : Nat → Nat) (l : List Nat) : ints? (l.map fun c => nv (g c)) = some (l.map fun c => (g c : Int)) := ints_map (fun c => (g c : Int)) l
theorem sum_rowV (p : Nat) (g : Nat → Nat) (S : Sto) : callBi S .sum [rowV p g] = some (nv (sumN p g)) := by
  simp only [callBi, intsT, asSeq, rowV, ints_nv, cast_sum]
  rfl
theorem sum_lst (p : Nat) (g : Nat → Nat) (S : Sto) (b : Bool) : callBi S .sum [.lst b ((List.range p).map fun c => nv (g c))] = some (nv (sumN p g)) := by
  simp only [callBi, intsT, asSeq, asList, ints_nv, cast_sum]
  rfl
theorem fold_max (l : List Nat) : ∀ a : Nat, maxI (a : Int) (l.map fun n : Nat => (n : Int)) = ((l.foldl max a : Nat) : Int) := by
  induction l with
  | nil => intro a; rfl
  | cons x l ih =>
    intro a
    show maxI (if (a : Int) < (x : Int) then (x : Int) else a) (l.map fun n : Nat => (n : Int)) = _
    rw [List.foldl_cons, ← ih]
    congr 1
    by_cases h : (a : Int) < x
    · rw [if_pos h, Nat.max_eq_right (by omega)]
    · rw [if_neg h, Nat.max_eq_left (by omega)]
theorem maxL_nv (l : List Nat) (h : l ≠ []) (S : Sto) (b : Bool) : callBi S .maxL [.lst b (l.map nv)] = some (nv (mx l)) := by
  cases l with
  | nil => exact absurd rfl h
  | cons a l =>
    have e : ints? ((a :: l).map nv) = some ((a :: l).map fun n : Nat => (n : Int)) := ints_map (fun n : Nat => (n : Int)) (a :: l)
    simp only [callBi, intsV, asList, e]
    simp only [List.map_cons, fold_max]
    rw [show mx (a :: l) = l.foldl max a by simp [mx]]
    rfl
theorem le_foldl (l : List Nat) : ∀ a : Nat, a ≤ l.foldl max a ∧ ∀ x ∈ l, x ≤ l.foldl max a := by
  induction l with
  | nil => intro a; exact ⟨Nat.le_refl _, by simp⟩
  | cons y l ih =>
    intro a
    obtain ⟨h1, h2⟩ := ih (max a y)
    refine ⟨by rw [List.foldl_cons]; omega, fun x hx => ?_⟩
    rw [List.foldl_cons]
    rcases List.mem_cons.mp hx with e | e
    · subst e; omega
    · exact h2 x e
theorem le_mx {l : List Nat} {x : Nat} (h : x ∈ l) : x ≤ mx l := (le_foldl l 0).2 x h
theorem foldl_le {b : Nat} (l : List Nat) : ∀ a : Nat, a ≤ b → (∀ x ∈ l, x ≤ b) → l.foldl max a ≤ b := by
  induction l with
  | nil => intro a h _; exact h
  | cons y l ih =>
    intro a h h2
    have hy := h2 y (by simp)
    exact ih (max a y) (by omega) fun x hx => h2 x (List.mem_cons_of_mem _ hx)
theorem mx_le {l : List Nat} {b : Nat} (h : ∀ x ∈ l, x ≤ b) : mx l ≤ b := foldl_le l 0 (Nat.zero_le _) h
theorem rS_load {s p : Nat} {f : Nat → Nat → Nat} {r : Nat} (h : r < s) : rS p f r ≤ load s p f := le_mx (List.mem_append_left _ (List.mem_map.mpr ⟨r, List.mem_range.mpr h, rfl⟩))
theorem cS_load {s p : Nat} {f : Nat → Nat → Nat} {c : Nat} (h : c < p) : cS s f c ≤ load s p f := le_mx (List.mem_append_right _ (List.mem_map.mpr ⟨c, List.mem_range.mpr h, rfl⟩))
theorem sumN_le {n b : Nat} {g : Nat → Nat} (h : ∀ c, c < n → g c ≤ b) : sumN n g ≤ n * b := by
  unfold sumN
  have : ∀ l : List Nat, (∀ c ∈ l, g c ≤ b) → (l.map g).sum ≤ l.length * b := by
    intro l
    induction l with
    | nil => intro _; simp
    | cons x l ih =>
      intro h
      have h1 := h x (by simp)
      have h2 := ih fun c hc => h c (List.mem_cons_of_mem _ hc)
      simp only [List.map_cons, List.sum_cons, List.length_cons, Nat.add_mul]
      omega
  have := this (List.range n) fun c hc => h c (List.mem_range.mp hc)
  simpa using this
theorem VF.load_le {s p : Nat} {f : Nat → Nat → Nat} (h : VF s p f) : load s p f ≤ 120 := by
  apply mx_le
  intro x hx
  have hs := h.s2
  have hp := h.p2
  rcases List.mem_append.mp hx with hx | hx
  · obtain ⟨r, hr, rfl⟩ := List.mem_map.mp hx
    have := sumN_le (n := p) (b := 12) (g := f r) fun c hc => h.le r c (List.mem_range.mp hr) hc
    simp only [rS]; omega
  · obtain ⟨c, hc, rfl⟩ := List.mem_map.mp hx
    have := sumN_le (n := s) (b := 12) (g := fun r => f r c) fun r hr => h.le r c hr (List.mem_range.mp hc)
    simp only [cS]; omega
/-! ### comprehensions -/
theorem ev_compc {α : Type} {c : Ctx} {env : Env} {S : Sto} {own : List Nat} {tg : T} {src : Src} {elt : E} (e g : α → Val) (xs : List α) (h1 : evalSrc c src env S = .ok (xs.map e) S) (hl : xs.length ≤ lim)
    (h : ∀ a ∈ xs, ∃ env', bindT tg (e a) (wipe env own) = some env' ∧ evalE c elt env' S = .ok (g a) S) (st : ∀ a, (g a).settle = g a) : evalE c (.comp own tg src [] elt) env S = .ok (.lst true (xs.map g)) S := by
  refine ev_comp h1 ?_ (by simpa using hl)
  rw [comp_all (c := c) e g xs h]
  simp only [st]
theorem ev_allc {α : Type} {c : Ctx} {env : Env} {S : Sto} {own : List Nat} {tg : T} {src : Src} {elt : E} (e : α → Val) (g : α → Bool) (xs : List α) (h1 : evalSrc c src env S = .ok (xs.map e) S) (hl : xs.length ≤ lim)
    (h : ∀ a ∈ xs, ∃ env', bindT tg (e a) (wipe env own) = some env' ∧ evalE c elt env' S = .ok (.bl (g a)) S) : evalE c (.bi .all [(.comp own tg src [] elt)]) env S = .ok (.bl (xs.all g)) S := by
  have := ev_compc e (fun a => .bl (g a)) xs h1 hl h (fun _ => rfl)
  simp only [ev_bi, es_cons, es_nil, this, QE.R.bind_okS, set_lst, callBi, boolsV, asList, bools_map, QE.R.of_some]
  simp [List.all_map]
end K68

set_option linter.all false
set_option maxRecDepth 10000
namespace K68
open QE
@[simp] theorem c0 : prog.con[0]? = some (.int 10) := rfl
@[simp] theorem c1 : prog.con[1]? = some (.int 10) := rfl
@[simp] theorem c2 : prog.con[2]? = some (.int 12) := rfl
theorem w_int (k : Nat) (i : Int) (S : Sto) : callFn prog (k + 1) 0 [.int i] S = .ok (.bl true) S := by
  rw [run_fn (d := d_is_whole) rfl rfl]
  simp [d_is_whole, isTy, tyName]
theorem w_bl (k : Nat) (b : Bool) (S : Sto) : callFn prog (k + 1) 0 [.bl b] S = .ok (.bl false) S := by
  rw [run_fn (d := d_is_whole) rfl rfl]
  simp [d_is_whole, isTy, tyName]
theorem fw_int (k : Nat) (i a b : Int) (S : Sto) : callFn prog (k + 2) 1 [.int i, .int a, .int b] S = .ok (.bl (decide (a ≤ i) && decide (i ≤ b))) S := by
  rw [run_fn (d := d_fits_whole) rfl rfl]
  simp [d_fits_whole, QE.cmp, leVal, w_int]
  by_cases h : a ≤ i <;> simp [h]
theorem fw_bl (k : Nat) (i : Bool) (a b : Val) (S : Sto) : callFn prog (k + 2) 1 [.bl i, a, b] S = .ok (.bl false) S := by
  rw [run_fn (d := d_fits_whole) rfl rfl]
  simp [d_fits_whole, w_bl]
theorem tu_tup (k : Nat) (xs : List Val) (a b : Int) (S : Sto) : callFn prog (k + 1) 2 [.tup xs, .int a, .int b] S = .ok (.bl (decide (a ≤ xs.length) && decide ((xs.length : Int) ≤ b))) S := by
  rw [run_fn (d := d_is_tuple_of) rfl rfl]
  simp [d_is_tuple_of, QE.cmp, leVal, isTy, tyName, callBi, lenOf, asSeq]
  by_cases h : a ≤ (xs.length : Int) <;> simp [h]
theorem tu_ptup (k : Nat) (xs : List Val) (a b : Int) (S : Sto) : callFn prog (k + 1) 2 [.ptup xs, .int a, .int b] S = .ok (.bl (decide (a ≤ xs.length) && decide ((xs.length : Int) ≤ b))) S := by
  rw [run_fn (d := d_is_tuple_of) rfl rfl]
  simp [d_is_tuple_of, QE.cmp, leVal, isTy, tyName, callBi, lenOf, asSeq]
  by_cases h : a ≤ (xs.length : Int) <;> simp [h]
/-- no tuple -/
def noT : Val → Bool
  | .non => true
  | .bl _ => true
  | .int _ => true
  | .str _ => true
  | .lst _ _ => true
  | _ => false
theorem tu_not (k : Nat) (v a b : Val) (S : Sto) (h : noT v = true) : callFn prog (k + 1) 2 [v, a, b] S = .ok (.bl false) S := by
  rw [run_fn (d := d_is_tuple_of) rfl rfl]
  cases v <;> simp only [noT] at h <;> first | (cases h; done) | simp [d_is_tuple_of, isTy, tyName, isNon]
def noW : Val → Bool
  | .non => true
  | .bl _ => true
  | .str _ => true
  | .tup _ => true
  | _ => false
theorem w_not (k : Nat) (v : Val) (S : Sto) (h : noW v = true) : callFn prog (k + 1) 0 [v] S = .ok (.bl false) S := by
  rw [run_fn (d := d_is_whole) rfl rfl]
  cases v <;> simp only [noW] at h <;> first | (cases h; done) | simp [d_is_whole, isTy, tyName, isNon]
theorem noW_st {v : Val} (h : noW v = true) : v.settle = v := by
  cases v <;> simp only [noW] at h <;> first | (cases h; done) | exact id rfl
theorem fw_not (k : Nat) (v a b : Val) (S : Sto) (h : noW v = true) : callFn prog (k + 2) 1 [v, a, b] S = .ok (.bl false) S := by
  rw [run_fn (d := d_fits_whole) rfl rfl]
  simp [d_fits_whole, noW_st h, w_not k v S h]
theorem small_lim {n : Nat} (h : n ≤ 100000) : n ≤ lim := by simp only [lim]; omega
section
variable {s p : Nat} {f : Nat → Nat → Nat}
theorem walk_enc (c : Ctx) (env : Env) (S : Sto) {e : E} (h : evalE c e env S = .ok (encF s p f) S) : evalSrc c (.it e) env S = .ok ((List.range s).map fun r => rowV p (f r)) S := by
  simp only [sr_it, h, QE.R.bind_okS, encF, walkOf, QE.R.of_some]
theorem fits (h : VF s p f) (k : Nat) (S : Sto) : callFn prog (k + 3) 3 [encF s p f] S = .ok (.bl true) S := by
  have hs1 := h.s1
  have hs2 := h.s2
  have hp1 := h.p1
  have hp2 := h.p2
  have t1 : callFn prog (k + 2) 2 [encF s p f, .int 1, .int 10] S = .ok (.bl true) S := by
    unfold encF
    rw [tu_tup]
    simp
    omega
  have t2 : ∀ r, callFn prog (k + 2) 2 [rowV p (f r), .int 1, .int 10] S = .ok (.bl true) S := fun r => by
    unfold rowV
    rw [tu_tup]
    simp
    omega
  rw [run_fn (d := d_fits_wants) rfl rfl]
  have hlim : (List.range s).length ≤ lim := small_lim (by simp; omega)
  have hlim2 : (List.range p).length ≤ lim := small_lim (by simp; omega)
  have a1 : evalE (cxt prog (k + 2) S.length) (.bi .all [(.comp [1] (.name 1) (.it (.var 0)) [] (.call 2 [(.var 1), (.lit (.int 1)), (.con 1)]))]) [some (encF s p f), none, none] S = .ok (.bl true) S := by
    rw [ev_allc (fun r => rowV p (f r)) (fun _ => true) (List.range s) (walk_enc _ _ _ (by simp)) hlim fun r hr => ⟨[some (encF s p f), some (rowV p (f r)), none], by simp [wipe], by simp [t2]⟩]
    simp
  have a2 : evalE (cxt prog (k + 2) S.length) (.bi .all [(.comp [1] (.name 1) (.it (.var 0)) [] (.cmp .eq (.bi .len [(.var 1)]) (.bi .len [(.idx (.var 0) (.lit (.int 0)))])))]) [some (encF s p f), none, none] S = .ok (.bl true) S := by
    rw [ev_allc (fun r => rowV p (f r)) (fun _ => true) (List.range s) (walk_enc _ _ _ (by simp)) hlim fun r hr => ⟨[some (encF s p f), some (rowV p (f r)), none], by simp [wipe], by
      have q : QE.cmp S .eq (nv p) (nv p) = some true := by simp [QE.cmp, eqVal, res, nv, Val.chk, Val.eqv]
      simp only [ev_cmp, ev_bi, es_cons, es_nil, ev_var, List.getElem?_cons_succ, List.getElem?_cons_zero, QE.R.bind_okS, set_rowV, len_rowV, QE.R.of_some, ev_idx, ev_lit, it_enc0 (show 0 < s by omega), q]⟩]
    simp
  have a3 : evalE (cxt prog (k + 2) S.length) (.bi .all [(.comp [1] (.name 1) (.it (.var 0)) [] (.bi .all [(.comp [2] (.name 2) (.it (.var 1)) [] (.call 1 [(.var 2), (.lit (.int 0)), (.con 2)]))]))]) [some (encF s p f), none, none] S = .ok (.bl true) S := by
    rw [ev_allc (fun r => rowV p (f r)) (fun _ => true) (List.range s) (walk_enc _ _ _ (by simp)) hlim fun r hr => ⟨[some (encF s p f), some (rowV p (f r)), none], by simp [wipe], by
      rw [ev_allc (fun c => nv (f r c)) (fun _ => true) (List.range p) (by simp [rowV, walkOf]) hlim2 fun c hc => ⟨[some (encF s p f), some (rowV p (f r)), some (nv (f r c))], by simp [wipe], by
        have hle := h.le r c (List.mem_range.mp hr) (List.mem_range.mp hc)
        have := fw_int k (f r c) 0 12 S
        simp only [ev_call, es_cons, es_nil, ev_var, ev_lit, ev_con, cxt_con, c2, List.getElem?_cons_succ, List.getElem?_cons_zero, QE.R.bind_okS, QE.R.of_some, set_int, set_nv, cxt_call]
        show callFn prog (k + 2) 1 [.int (f r c), .int 0, .int 12] S = _
        rw [this]
        simp
        omega⟩]
      simp⟩]
    simp
  show finish S.length (execSs (cxt prog (k + 2) S.length) d_fits_wants.body [some (encF s p f), none, none] S) = _
  simp only [d_fits_wants, xs_cons, xs_nil, x_if, ev_or, eor_cons, eor_nil, ev_not, ev_call, es_cons, es_nil, ev_var, List.getElem?_cons_zero, QE.R.bind_okS, ev_lit, ev_con, cxt_con, c0, QE.R.of_some, set_encF, set_int, cxt_call, t1, bl_ok, Bool.not_true, a1, QE.R.calm_okS, Bool.false_eq_true, if_false, a2, x_ret, a3, fin_rt]
theorem need (h : VF s p f) (k : Nat) (S : Sto) : callFn prog (k + 4) 4 [encF s p f] S = .ok .non S := by
  rw [run_fn (d := d_need_wants) rfl rfl]
  have := fits h k S
  simp [d_need_wants, this]
theorem col {c : Nat} (hs : s ≤ 10) (hc : c < p) (k : Nat) (S : Sto) : callFn prog (k + 1) 5 [encF s p f, nv c] S = .ok (.lst true ((List.range s).map fun r => nv (f r c))) S := by
  rw [run_fn (d := d_column) rfl rfl]
  have hlim : (List.range s).length ≤ lim := small_lim (by simp; omega)
  have a1 : evalE (cxt prog k S.length) (.comp [2] (.name 2) (.it (.var 0)) [] (.idx (.var 2) (.var 1))) [some (encF s p f), some (nv c), none] S = .ok (.lst true ((List.range s).map fun r => nv (f r c))) S :=
    ev_compc (fun r => rowV p (f r)) (fun r => nv (f r c)) (List.range s) (walk_enc _ _ _ (by simp)) hlim (fun r hr => ⟨[some (encF s p f), some (nv c), some (rowV p (f r))], by simp [wipe], by simp [it_row' hc]⟩) (fun _ => rfl)
  show finish S.length (execSs (cxt prog k S.length) d_column.body [some (encF s p f), some (nv c), none] S) = _
  simp only [d_column, xs_cons, xs_nil, x_ret, a1, QE.R.calm_okS, QE.R.bind_okS, fin_rt]
theorem colsum {c : Nat} (hs : s ≤ 10) (hc : c < p) (k b : Nat) (S : Sto) (env : Env) {e1 e2 : E} (h1 : evalE (cxt prog (k + 1) b) e1 env S = .ok (encF s p f) S) (h2 : evalE (cxt prog (k + 1) b) e2 env S = .ok (nv c) S) :
    evalE (cxt prog (k + 1) b) (.bi .sum [(.call 5 [e1, e2])]) env S = .ok (nv (cS s f c)) S := by
  simp only [ev_bi, es_cons, es_nil, ev_call, h1, h2, QE.R.bind_okS, set_encF, set_nv, cxt_call, col hs hc, set_lst, sum_lst, QE.R.of_some]
  rfl
theorem gload (h : VF s p f) (k : Nat) (S : Sto) : callFn prog (k + 2) 6 [encF s p f] S = .ok (nv (load s p f)) S := by
  rw [run_fn (d := d_greatest_load) rfl rfl]
  have hs1 := h.s1
  have hs2 := h.s2
  have hp1 := h.p1
  have hp2 := h.p2
  have hlim : (List.range s).length ≤ lim := small_lim (by simp; omega)
  have hlim2 : (List.range p).length ≤ lim := small_lim (by simp; omega)
  have a1 : evalE (cxt prog (k + 1) S.length) (.comp [1] (.name 1) (.it (.var 0)) [] (.bi .sum [(.var 1)])) [some (encF s p f), none, none] S = .ok (.lst true ((List.range s).map fun r => nv (rS p f r))) S :=
    ev_compc (fun r => rowV p (f r)) (fun r => nv (rS p f r)) (List.range s) (walk_enc _ _ _ (by simp)) hlim (fun r hr => ⟨[some (encF s p f), some (rowV p (f r)), none], by simp [wipe], by
      simp only [ev_bi, es_cons, es_nil, ev_var, List.getElem?_cons_succ, List.getElem?_cons_zero, QE.R.bind_okS, set_rowV, sum_rowV, QE.R.of_some]
      rfl⟩) (fun _ => rfl)
  have a2 : evalE (cxt prog (k + 1) S.length) (.comp [2] (.name 2) (.rng1 (.bi .len [(.idx (.var 0) (.lit (.int 0)))])) [] (.bi .sum [(.call 5 [(.var 0), (.var 2)])])) [some (encF s p f), none, none] S = .ok (.lst true ((List.range p).map fun c => nv (cS s f c))) S :=
    ev_compc nv (fun c => nv (cS s f c)) (List.range p) (by
      simp only [sr_1, ev_bi, es_cons, es_nil, ev_idx, ev_var, ev_lit, List.getElem?_cons_zero, QE.R.bind_okS, it_enc0 (show 0 < s by omega), QE.R.of_some, set_rowV, len_rowV, int_nv]
      exact rng_ok S p (by omega)) hlim2 (fun c hc => ⟨[some (encF s p f), none, some (nv c)], by simp [wipe], colsum hs2 (List.mem_range.mp hc) k _ S _ (by simp) (by simp)⟩) (fun _ => rfl)
  have a3 : ∀ a b : List Val, a.length ≤ 100 → b.length ≤ 100 → QE.bin S .add (.lst true a) (.lst true b) = some (.lst true (a ++ b)) := fun a b ha hb => by
    simp only [QE.bin, addV, asList]
    rw [if_pos (small_lim (by omega))]
  have a4 := maxL_nv ((List.range s).map (rS p f) ++ (List.range p).map (cS s f)) (by
    intro z
    have := congrArg List.length z
    simp at this
    omega) S false
  rw [List.map_append, List.map_map, List.map_map] at a4
  show finish S.length (execSs (cxt prog (k + 1) S.length) d_greatest_load.body [some (encF s p f), none, none] S) = _
  have a5 : callBi S .maxL [.lst false ((List.range s).map (fun r => nv (rS p f r)) ++ (List.range p).map fun c => nv (cS s f c))] = some (nv (load s p f)) := a4
  simp only [d_greatest_load, xs_cons, xs_nil, x_ret, ev_bi, es_cons, es_nil, ev_bin, a1, a2, QE.R.bind_okS, a3 _ _ (show ((List.range s).map fun r => nv (rS p f r)).length ≤ 100 by simp; omega) (show ((List.range p).map fun c => nv (cS s f c)).length ≤ 100 by simp; omega), QE.R.of_some, set_lst, a5, QE.R.calm_okS, fin_rt]
end
end K68

set_option linter.all false
set_option maxRecDepth 10000
namespace K68
open QE
/-! ### tables in cells -/
def TBs (n : Nat) (g : Nat → Nat → Int) : Sto := (List.range n).map fun r => rowO n (g r)
def upd2 (g : Nat → Nat → Int) (r c : Nat) (x : Int) : Nat → Nat → Int := fun r' c' => if r' = r ∧ c' = c then x else g r' c'
theorem TBs_len (n : Nat) (g : Nat → Nat → Int) : (TBs n g).length = n := by simp [TBs]
theorem TBs_congr {n : Nat} {g g' : Nat → Nat → Int} (h : ∀ r c, r < n → c < n → g r c = g' r c) : TBs n g = TBs n g' := by
  unfold TBs
  apply List.map_congr_left
  intro r hr
  unfold rowO
  congr 1
  apply List.map_congr_left
  intro c hc
  rw [h r c (List.mem_range.mp hr) (List.mem_range.mp hc)]
theorem Sq_tb (S J : Sto) (n : Nat) (g : Nat → Nat → Int) : Sq (S ++ (TBs n g ++ J)) S.length n g := fun r hr => by
  rw [List.getElem?_append_right (by omega), Nat.add_sub_cancel_left, List.getElem?_append_left (by rw [TBs_len]; exact hr)]
  simp [TBs, hr]
theorem set_tb {n r c : Nat} (hr : r < n) (hc : c < n) (S J : Sto) (g : Nat → Nat → Int) (x : Int) :
    (S ++ (TBs n g ++ J)).set (S.length + r) (.lst (((List.range n).map fun c => Val.int (g r c)).set c (.int x))) = S ++ (TBs n (upd2 g r c x) ++ J) := by
  rw [List.set_append_right _ _ (by omega), Nat.add_sub_cancel_left, List.set_append_left _ _ (by rw [TBs_len]; exact hr)]
  congr 2
  apply List.ext_getElem?
  intro i
  by_cases hi : i = r
  · subst hi
    rw [List.getElem?_set_self (by rw [TBs_len]; exact hr)]
    simp only [TBs, List.getElem?_map, List.getElem?_range hr, Option.map_some, rowO]
    congr 2
    apply List.ext_getElem?
    intro j
    by_cases hj : j = c
    · subst hj
      rw [List.getElem?_set_self (by simpa using hc)]
      simp [List.getElem?_range hc, upd2]
    · rw [List.getElem?_set_ne (fun z => hj z.symm)]
      simp only [List.getElem?_map]
      by_cases hjn : j < n
      · simp [List.getElem?_range hjn, upd2, hj]
      · simp [hjn]
  · rw [List.getElem?_set_ne (fun z => hi z.symm)]
    simp only [TBs, List.getElem?_map]
    by_cases hin : i < n
    · simp only [List.getElem?_range hin, Option.map_some, rowO]
      congr 2
      apply List.map_congr_left
      intro j _
      simp [upd2, hi]
    · simp [hin]
theorem setIx_tb {n r c : Nat} (hr : r < n) (hc : c < n) (b : Nat) (S J : Sto) (g : Nat → Nat → Int) (x : Int) :
    QE.setIx b (S ++ (TBs n g ++ J)) (.ref (S.length + r)) (nv c) (.int x) = .ok () (S ++ (TBs n (upd2 g r c x) ++ J)) := by
  have h1 := Sq_tb S J n g r hr
  simp only [QE.setIx, h1, rowO, nv]
  rw [show ((List.range n).map fun c => Val.int (g r c)).length = n by simp, ixN_nat hc]
  simp only [set_int]
  rw [if_pos (by simp [mayPut, Val.low]), set_tb hr hc]
/-! ### the square that wants are padded to -/
section
variable (s p : Nat) (f : Nat → Nat → Nat) (L : Nat)
def Wd (i j : Nat) : Nat → Nat → Int := fun r c =>
  if r < s then (if c < p then (if r < i ∨ (r = i ∧ c < j) then (f r c : Int) else 0) else (if c = p + r ∧ r < i then (L : Int) - rS p f r else 0))
  else (if c < p then 0 else (if c - p < i ∨ (c - p = i ∧ r - s < j) then (f (c - p) (r - s) : Int) else 0))
def We (j : Nat) : Nat → Nat → Int := fun r c =>
  if r < s then (if c < p then (f r c : Int) else if c = p + r then (L : Int) - rS p f r else 0)
  else (if c < p then (if r = s + c ∧ c < j then (L : Int) - cS s f c else 0) else (f (c - p) (r - s) : Int))
variable {s p f L}
theorem Wd_step {i j : Nat} (hi : i < s) (hj : j < p) : ∀ r c, upd2 (upd2 (Wd s p f L i j) i j (f i j)) (s + j) (p + i) (f i j) r c = Wd s p f L i (j + 1) r c := by
  intro r c
  unfold upd2 Wd
  grind
theorem Wd_row {i : Nat} (hi : i < s) : ∀ r c, r < s + p → c < s + p → upd2 (Wd s p f L i p) i (p + i) ((L : Int) - rS p f i) r c = Wd s p f L (i + 1) 0 r c := by
  intro r c hr hc
  unfold upd2 Wd
  grind
theorem Wd_end : ∀ r c, r < s + p → c < s + p → Wd s p f L s 0 r c = We s p f L 0 r c := by
  intro r c hr hc
  unfold We Wd
  grind
theorem We_step {j : Nat} (hj : j < p) : ∀ r c, upd2 (We s p f L j) (s + j) j ((L : Int) - cS s f j) r c = We s p f L (j + 1) r c := by
  intro r c
  unfold upd2 We
  grind
end
end K68

set_option linter.all false
set_option maxRecDepth 10000
namespace K68
open QE
theorem rep_one {α : Type} (x : α) : ∀ n : Nat, QE.rep n [x] = List.replicate n x
  | 0 => rfl
  | n + 1 => by rw [QE.rep, rep_one x n, List.replicate_succ]; rfl
theorem zeros (n : Nat) : TBs n (fun _ _ => 0) = List.replicate n (.lst (List.replicate n (.int 0))) := by
  unfold TBs rowO
  rw [List.map_const', List.map_const', List.length_range]
section
variable {s p : Nat} {f : Nat → Nat → Nat}
def penv (s p : Nat) (f : Nat → Nat → Nat) (x4 x5 x6 x7 x8 : Option Val) : Env := [some (encF s p f), some (nv s), some (nv p), some (nv (load s p f)), x4, x5, x6, x7, x8]
theorem nv_add (a b : Nat) (S : Sto) : QE.bin S .add (nv a) (nv b) = some (nv (a + b)) := by simp [QE.bin, addV, nv]
theorem nv_sub (a b : Nat) (S : Sto) : QE.bin S .sub (nv a) (nv b) = some (.int ((a : Int) - b)) := by simp [QE.bin, subV, nv]
theorem cells_loop {n : Nat} (hn : n ≤ 1000) (c : Ctx) (env : Env) (h4 : ∀ x, (env.set 8 x)[4]? = some (some (nv n))) : ∀ (l : List Nat) (S : Sto),
    compLoop (.name 8) (evalAnd c []) (evalE c (.cell (.bin .mul (.list [(.lit (.int 0))]) (.var 4)))) env (l.map nv) S = .ok ((List.range l.length).map fun i => .ref (S.length + i)) (S ++ List.replicate l.length (.lst (List.replicate n (.int 0))))
  | [], S => by simp [compLoop]
  | x :: l, S => by
    have ih := cells_loop hn c env h4 l (S ++ [.lst (List.replicate n (.int 0))])
    have hm : ∀ S : Sto, QE.bin S .mul (.lst true [.int 0]) (nv n) = some (.lst true (List.replicate n (.int 0))) := fun S => by
      simp only [QE.bin, mulV, nv]
      rw [if_pos (by simp; omega)]
      simp [rep_one]
    have l1 : (1 : Nat) ≤ lim := by simp [lim]
    simp only [List.map_cons, compLoop, bind_name, ea_nil, QE.R.bind_okS, if_true, ev_cell, ev_bin, ev_list, es_cons, es_nil, ev_lit, set_int, List.length_cons, List.length_nil, Nat.zero_add, l1, ev_var, h4, hm, QE.R.of_some, newCell, ih]
    rw [List.range_succ_eq_map]
    simp only [List.map_cons, List.map_map, List.length_append, List.length_cons, List.length_nil, List.append_assoc, List.replicate_succ, Nat.add_zero, set_ref]
    congr 1
    · congr 1
      apply List.map_congr_left
      intro i _
      simp only [Function.comp_apply]
      congr 1
      omega
theorem at_sq {r n : Nat} (h : r < n) (o : Nat) (S : Sto) : item S (sq o n) (nv r) = some (.ref (o + r)) := it_sq h o S
def inBody : List Stm := [(.setIx (.idx (.var 5) (.var 6)) (.var 7) (.idx (.idx (.var 0) (.var 6)) (.var 7))), (.setIx (.idx (.var 5) (.bin .add (.var 1) (.var 7))) (.bin .add (.var 2) (.var 6)) (.idx (.idx (.var 0) (.var 6)) (.var 7)))]
theorem in_loop (h : VF s p f) (c : Ctx) (S : Sto) {i : Nat} (hi : i < s) (x7 x8 : Option Val) :
    ∃ y7, forLoop (.name 7) (execSs c inBody) ((List.range p).map nv) (penv s p f (some (nv (s + p))) (some (sq S.length (s + p))) (some (nv i)) x7 x8) (S ++ (TBs (s + p) (Wd s p f (load s p f) i 0) ++ [])) =
      .ok (.nx, penv s p f (some (nv (s + p))) (some (sq S.length (s + p))) (some (nv i)) y7 x8) (S ++ (TBs (s + p) (Wd s p f (load s p f) i p) ++ [])) := by
  obtain ⟨env2, S2, h1, ⟨y7, h2⟩, h3⟩ := for_run (tg := .name 7) (body := execSs c inBody) nv (fun j env S' => (∃ y7, env = penv s p f (some (nv (s + p))) (some (sq S.length (s + p))) (some (nv i)) y7 x8) ∧ S' = S ++ (TBs (s + p) (Wd s p f (load s p f) i j) ++ []))
    (List.range p) 0 _ _ ⟨⟨x7, rfl⟩, rfl⟩ (by
      intro j a env S' hj ⟨⟨y7, e1⟩, e2⟩
      have hjp : j < p := by
        have := (List.getElem?_eq_some_iff.mp hj).1
        simpa using this
      rw [List.getElem?_range hjp] at hj
      cases hj
      subst e1 e2
      rw [Nat.zero_add]
      refine ⟨_, penv s p f (some (nv (s + p))) (some (sq S.length (s + p))) (some (nv i)) (some (nv j)) x8, _, by rw [bind_name], ?_, ⟨⟨_, rfl⟩, rfl⟩⟩
      have e3 : (fun r c => upd2 (upd2 (Wd s p f (load s p f) i j) i j (f i j)) (s + j) (p + i) (f i j) r c) = fun r c => Wd s p f (load s p f) i (j + 1) r c := by
        funext r c
        exact Wd_step hi hjp r c
      have t1 := setIx_tb (n := s + p) (r := i) (c := j) (by omega) (by omega) c.base S [] (Wd s p f (load s p f) i j) (f i j)
      have t2 := setIx_tb (n := s + p) (r := s + j) (c := p + i) (by omega) (by omega) c.base S [] (upd2 (Wd s p f (load s p f) i j) i j (f i j)) (f i j)
      rw [show upd2 (upd2 (Wd s p f (load s p f) i j) i j (f i j)) (s + j) (p + i) (f i j) = Wd s p f (load s p f) i (j + 1) from e3] at t2
      have a1 : ∀ S : Sto, item S (sq S.length (s + p)) (nv i) = some (.ref (S.length + i)) := fun S => it_sq (by omega) _ S
      have v1 : ∀ S : Sto, item S (encF s p f) (nv i) = some (rowV p (f i)) := fun S => it_enc hi p f S
      have v2 : ∀ S : Sto, item S (rowV p (f i)) (nv j) = some (.int (f i j)) := fun S => it_row' hjp (f i) S
      have b1 : ∀ T : Sto, item T (sq S.length (s + p)) (nv i) = some (.ref (S.length + i)) := fun T => it_sq (by omega) _ T
      have b2 : ∀ T : Sto, item T (sq S.length (s + p)) (nv (s + j)) = some (.ref (S.length + (s + j))) := fun T => it_sq (by omega) _ T
      simp only [penv, set_nv, List.set_cons_succ, List.set_cons_zero, inBody, xs_cons, xs_nil, x_setIx, ev_idx, ev_var, ev_bin, List.getElem?_cons_succ, List.getElem?_cons_zero, QE.R.bind_okS, v1, v2, b1, b2, QE.R.of_some, QE.R.calm_okS, t1, nv_add, t2])
  simp only [List.length_range, Nat.zero_add] at h3
  subst h2 h3
  exact ⟨y7, h1⟩
abbrev E5 (s p : Nat) (f : Nat → Nat → Nat) (o : Nat) (x6 x7 x8 : Option Val) : Env := penv s p f (some (nv (s + p))) (some (sq o (s + p))) x6 x7 x8
def outBody : List Stm := [(.for_ (.name 7) (.rng1 (.var 2)) inBody), (.setIx (.idx (.var 5) (.var 6)) (.bin .add (.var 2) (.var 6)) (.bin .sub (.var 3) (.bi .sum [(.idx (.var 0) (.var 6))])))]
theorem out_loop (h : VF s p f) (c : Ctx) (S : Sto) (x6 x7 x8 : Option Val) :
    ∃ y6 y7, forLoop (.name 6) (execSs c outBody) ((List.range s).map nv) (E5 s p f S.length x6 x7 x8) (S ++ (TBs (s + p) (fun _ _ => 0) ++ [])) =
      .ok (.nx, E5 s p f S.length y6 y7 x8) (S ++ (TBs (s + p) (We s p f (load s p f) 0) ++ [])) := by
  have hs2 := h.s2
  have hp2 := h.p2
  obtain ⟨env2, S2, h1, ⟨y6, y7, h2⟩, h3⟩ := for_run (tg := .name 6) (body := execSs c outBody) nv (fun i env S' => (∃ y6 y7, env = E5 s p f S.length y6 y7 x8) ∧ S' = S ++ (TBs (s + p) (Wd s p f (load s p f) i 0) ++ []))
    (List.range s) 0 (E5 s p f S.length x6 x7 x8) (S ++ (TBs (s + p) (fun _ _ => 0) ++ [])) ⟨⟨x6, x7, rfl⟩, by
      congr 2
      refine TBs_congr fun r c _ _ => ?_
      unfold Wd
      grind⟩ (by
      intro i a env S' hi ⟨⟨y6, y7, e1⟩, e2⟩
      have his : i < s := by
        have := (List.getElem?_eq_some_iff.mp hi).1
        simpa using this
      rw [List.getElem?_range his] at hi
      cases hi
      subst e1 e2
      rw [Nat.zero_add]
      obtain ⟨z7, hl⟩ := in_loop h c S his y7 x8
      refine ⟨_, E5 s p f S.length (some (nv i)) z7 x8, _, by rw [bind_name], ?_, ⟨⟨_, _, rfl⟩, rfl⟩⟩
      have t1 := setIx_tb (n := s + p) (r := i) (c := p + i) (by omega) (by omega) c.base S [] (Wd s p f (load s p f) i p) ((load s p f : Int) - rS p f i)
      rw [TBs_congr (g' := Wd s p f (load s p f) (i + 1) 0) (fun r c hr hc => Wd_row his r c hr hc)] at t1
      have v1 : ∀ S : Sto, item S (encF s p f) (nv i) = some (rowV p (f i)) := fun S => it_enc his p f S
      have b1 : ∀ T : Sto, item T (sq S.length (s + p)) (nv i) = some (.ref (S.length + i)) := fun T => it_sq (by omega) _ T
      have e0 : (E5 s p f S.length y6 y7 x8).set 6 (some (nv i).settle) = E5 s p f S.length (some (nv i)) y7 x8 := rfl
      rw [e0]
      refine ss_step (x_for (xs := (List.range p).map nv) (S1 := S ++ (TBs (s + p) (Wd s p f (load s p f) i 0) ++ [])) (by
        simp only [sr_1, ev_var, penv, List.getElem?_cons_succ, List.getElem?_cons_zero, QE.R.bind_okS, int_nv]
        exact rng_ok _ p (by omega)) hl) ?_
      simp only [penv, xs_cons, xs_nil, x_setIx, ev_idx, ev_var, ev_bin, ev_bi, es_cons, es_nil, List.getElem?_cons_succ, List.getElem?_cons_zero, QE.R.bind_okS, v1, b1, QE.R.of_some, QE.R.calm_okS, set_rowV, sum_rowV, nv_add, nv_sub]
      rw [show (sumN p (f i) : Int) = rS p f i from rfl]
      simp only [t1, QE.R.calm_okS, QE.R.bind_okS])
  simp only [List.length_range, Nat.zero_add] at h3
  subst h2 h3
  refine ⟨y6, y7, ?_⟩
  rw [h1]
  congr 3
  exact TBs_congr fun r c hr hc => Wd_end r c hr hc
def endBody : List Stm := [(.setIx (.idx (.var 5) (.bin .add (.var 1) (.var 7))) (.var 7) (.bin .sub (.var 3) (.bi .sum [(.call 5 [(.var 0), (.var 7)])])))]
theorem end_loop (h : VF s p f) (k b : Nat) (S : Sto) (x6 x7 x8 : Option Val) :
    ∃ y7, forLoop (.name 7) (execSs (cxt prog (k + 1) b) endBody) ((List.range p).map nv) (E5 s p f S.length x6 x7 x8) (S ++ (TBs (s + p) (We s p f (load s p f) 0) ++ [])) =
      .ok (.nx, E5 s p f S.length x6 y7 x8) (S ++ (TBs (s + p) (We s p f (load s p f) p) ++ [])) := by
  have hs2 := h.s2
  have hp2 := h.p2
  obtain ⟨env2, S2, h1, ⟨y7, h2⟩, h3⟩ := for_run (tg := .name 7) (body := execSs (cxt prog (k + 1) b) endBody) nv (fun j env S' => (∃ y7, env = E5 s p f S.length x6 y7 x8) ∧ S' = S ++ (TBs (s + p) (We s p f (load s p f) j) ++ []))
    (List.range p) 0 _ _ ⟨⟨x7, rfl⟩, rfl⟩ (by
      intro j a env S' hj ⟨⟨y7, e1⟩, e2⟩
      have hjp : j < p := by
        have := (List.getElem?_eq_some_iff.mp hj).1
        simpa using this
      rw [List.getElem?_range hjp] at hj
      cases hj
      subst e1 e2
      rw [Nat.zero_add]
      refine ⟨_, E5 s p f S.length x6 (some (nv j)) x8, _, by rw [bind_name], ?_, ⟨⟨_, rfl⟩, rfl⟩⟩
      have t1 := setIx_tb (n := s + p) (r := s + j) (c := j) (by omega) (by omega) b S [] (We s p f (load s p f) j) ((load s p f : Int) - cS s f j)
      rw [TBs_congr (g' := We s p f (load s p f) (j + 1)) (fun r c _ _ => We_step hjp r c)] at t1
      have b2 : ∀ T : Sto, item T (sq S.length (s + p)) (nv (s + j)) = some (.ref (S.length + (s + j))) := fun T => it_sq (by omega) _ T
      have e0 : (E5 s p f S.length x6 y7 x8).set 7 (some (nv j).settle) = E5 s p f S.length x6 (some (nv j)) x8 := rfl
      rw [e0]
      have hc := colsum (f := f) hs2 hjp k b (S ++ (TBs (s + p) (We s p f (load s p f) j) ++ [])) (E5 s p f S.length x6 (some (nv j)) x8) (e1 := .var 0) (e2 := .var 7) (by simp [penv]) (by simp [penv])
      simp only [penv] at hc
      simp only [endBody, xs_cons, xs_nil, x_setIx, hc, penv, ev_idx, ev_var, ev_bin, List.getElem?_cons_succ, List.getElem?_cons_zero, QE.R.bind_okS, b2, QE.R.of_some, QE.R.calm_okS, nv_add, nv_sub, cxt_base, t1])
  simp only [List.length_range, Nat.zero_add] at h3
  subst h2 h3
  exact ⟨y7, h1⟩
theorem mul_cells (S J : Sto) (n : Nat) (h : 0 < n) (g : Nat → Nat → Int) : freeze S.length (S ++ (TBs n g ++ J)) (sq S.length n) = none := by
  have : Val.lowL S.length ((List.range n).map fun r => Val.ref (S.length + r)) = false := by
    cases n with
    | zero => omega
    | succ n => simp [List.range_succ_eq_map, Val.lowL, Val.low]
  simp [freeze, freeze1, sq, Val.low, this]
theorem padded (h : VF s p f) (k : Nat) (S : Sto) : callFn prog (k + 3) 8 [encF s p f] S = .ok (sq S.length (s + p)) (S ++ (TBs (s + p) (We s p f (load s p f) p) ++ [])) := by
  have hs1 := h.s1
  have hs2 := h.s2
  have hp1 := h.p1
  have hp2 := h.p2
  obtain ⟨y6, y7, l1⟩ := out_loop h (cxt prog (k + 2) S.length) S none none none
  obtain ⟨z7, l2⟩ := end_loop h (k + 1) S.length S y6 y7 none
  rw [run_fn (d := d_padded) rfl rfl]
  have hg := gload h k S
  have hfin : finish S.length (.ok (.rt (sq S.length (s + p)), E5 s p f S.length y6 z7 none) (S ++ (TBs (s + p) (We s p f (load s p f) p) ++ []))) = .ok (sq S.length (s + p)) (S ++ (TBs (s + p) (We s p f (load s p f) p) ++ [])) := by
    have h1 : ¬ (S ++ (TBs (s + p) (We s p f (load s p f) p) ++ [])).length ≤ S.length := by simp [TBs_len]; omega
    simp only [finish, h1, if_false, mul_cells S [] (s + p) (by omega)]
  refine Eq.trans (congrArg (finish S.length) ?_) hfin
  refine ss_step (env' := penv s p f none none none none none) (S' := S) (by
    show execS (cxt prog (k + 2) S.length) _ [some (encF s p f), none, none, none, none, none, none, none, none] S = _
    simp only [x_par, es_cons, es_nil, ev_bi, ev_idx, ev_var, ev_lit, ev_call, List.getElem?_cons_zero, QE.R.bind_okS, set_encF, len_enc, it_enc0 (show 0 < s by omega), QE.R.of_some, set_rowV, len_rowV, set_nv, cxt_call, hg, QE.R.calm_okS]
    rfl) ?_
  refine ss_step (env' := penv s p f (some (nv (s + p))) none none none none) (S' := S) (by
    simp only [penv, x_asg, ev_bin, ev_var, List.getElem?_cons_succ, List.getElem?_cons_zero, QE.R.bind_okS, nv_add, QE.R.of_some, QE.R.calm_okS, bind_name, set_nv]
    rfl) ?_
  refine ss_step (env' := E5 s p f S.length none none none) (S' := S ++ (TBs (s + p) (fun _ _ => 0) ++ [])) (by
    have hc := cells_loop (n := s + p) (by omega) (cxt prog (k + 2) S.length) (penv s p f (some (nv (s + p))) none none none none) (fun x => rfl) (List.range (s + p)) S
    have hv := ev_comp (c := cxt prog (k + 2) S.length) (env := penv s p f (some (nv (s + p))) none none none none) (S := S) (own := [8]) (tg := .name 8) (src := .rng1 (.var 4)) (ifs := []) (xs := (List.range (s + p)).map nv) (S1 := S) (by
      simp only [sr_1, penv, ev_var, List.getElem?_cons_succ, List.getElem?_cons_zero, QE.R.bind_okS, int_nv]
      exact rng_ok S (s + p) (by omega)) hc (small_lim (by simp; omega))
    rw [x_asg, hv]
    simp only [QE.R.calm_okS, QE.R.bind_okS, bind_name, set_lst, QE.R.of_some, List.length_range, List.append_nil, ← zeros]
    rfl) ?_
  refine ss_step (x_for (xs := (List.range s).map nv) (S1 := S ++ (TBs (s + p) (fun _ _ => 0) ++ [])) (by
    simp only [sr_1, penv, ev_var, List.getElem?_cons_succ, List.getElem?_cons_zero, QE.R.bind_okS, int_nv]
    exact rng_ok _ s (by omega)) l1) ?_
  refine ss_step (x_for (xs := (List.range p).map nv) (S1 := S ++ (TBs (s + p) (We s p f (load s p f) 0) ++ [])) (by
    simp only [sr_1, penv, ev_var, List.getElem?_cons_succ, List.getElem?_cons_zero, QE.R.bind_okS, int_nv]
    exact rng_ok _ p (by omega)) l2) ?_
  simp only [xs_cons, x_ret, penv, ev_var, List.getElem?_cons_succ, List.getElem?_cons_zero, QE.R.calm_okS, QE.R.bind_okS]
end
end K68

set_option linter.all false
set_option maxRecDepth 10000
namespace K68
open QE
open Kuhn (sm sm_app sm_congr sm_zero sm_one Reg)
theorem sm_map (l : List Nat) (g : Nat → Nat) (f : Nat → Int) : sm (l.map g) f = sm l fun x => f (g x) := by simp [sm, List.map_map]; rfl
theorem sm_split (a b : Nat) (f : Nat → Int) : sm (List.range (a + b)) f = sm (List.range a) f + sm (List.range b) fun j => f (a + j) := by
  rw [List.range_add, sm_app, sm_map]
theorem sm_sumN (n : Nat) (g : Nat → Nat) : (sm (List.range n) fun c => (g c : Int)) = (sumN n g : Int) := cast_sum g (List.range n)
theorem We_reg {s p : Nat} {f : Nat → Nat → Nat} (h : VF s p f) : Reg (We s p f (load s p f) p) (s + p) (load s p f) where
  nn := fun r c hr hc => by
    unfold We
    split
    · split
      · omega
      · split
        · have := rS_load (s := s) (p := p) (f := f) (r := r) (by assumption)
          omega
        · omega
    · split
      · split
        · have := cS_load (s := s) (p := p) (f := f) (c := c) (by assumption)
          omega
        · omega
      · omega
  row := fun r hr => by
    rw [Nat.add_comm s p, sm_split]
    by_cases h1 : r < s
    · rw [sm_congr (g := fun c => (f r c : Int)) fun c hc => by simp [We, h1, List.mem_range.mp hc]]
      rw [sm_sumN, sm_one h1 fun j hj hne => by
        have h3 : ¬ (p + j < p) := by omega
        have h4 : ¬ (p + j = p + r) := by omega
        simp [We, h1, h3, h4]
        intro z; exact absurd z hne]
      simp [We, h1]
      show (rS p f r : Int) + _ = _
      omega
    · have hc0 : r - s < p := by omega
      rw [sm_one hc0 fun c hc hne => by
        have h4 : ¬ (r = s + c) := by omega
        simp [We, h1, hc, h4]]
      rw [sm_congr (g := fun j => (f j (r - s) : Int)) (l := List.range s) fun j hj => by
        have h3 : ¬ (p + j < p) := by omega
        simp [We, h1, h3]]
      rw [sm_sumN]
      have h5 : r = s + (r - s) := by omega
      have h6 : We s p f (load s p f) p r (r - s) = (load s p f : Int) - cS s f (r - s) := by
        unfold We
        rw [if_neg h1, if_pos hc0, if_pos ⟨h5, hc0⟩]
      rw [h6]
      show (load s p f : Int) - cS s f (r - s) + cS s f (r - s) = _
      omega
  col := fun c hc => by
    rw [sm_split]
    by_cases h1 : c < p
    · rw [sm_congr (g := fun r => (f r c : Int)) fun r hr => by simp [We, h1, List.mem_range.mp hr]]
      rw [sm_sumN, sm_one h1 fun j hj hne => by
        have h3 : ¬ (s + j < s) := by omega
        have h4 : ¬ (s + j = s + c) := by omega
        simp [We, h1, h3, h4]
        intro z; exact absurd z hne]
      have h6 : We s p f (load s p f) p (s + c) c = (load s p f : Int) - cS s f c := by
        unfold We
        rw [if_neg (by omega), if_pos h1, if_pos ⟨rfl, h1⟩]
      rw [h6]
      show (cS s f c : Int) + _ = _
      omega
    · have hr0 : c - p < s := by omega
      rw [sm_one hr0 fun r hr hne => by
        have h4 : ¬ (c = p + r) := by omega
        simp [We, h1, hr, h4]]
      rw [sm_congr (g := fun j => (f (c - p) j : Int)) (l := List.range p) fun j hj => by
        have h3 : ¬ (s + j < s) := by omega
        simp [We, h1, h3]]
      rw [sm_sumN]
      have h6 : We s p f (load s p f) p (c - p) c = (load s p f : Int) - rS p f (c - p) := by
        unfold We
        rw [if_pos hr0, if_neg h1, if_pos (by omega)]
      rw [h6]
      show (load s p f : Int) - rS p f (c - p) + rS p f (c - p) = _
      omega
end K68

set_option linter.all false
set_option maxRecDepth 10000
namespace K68
open QE
open Kuhn (Mt get put ks vs Reg Perf off)
/-! ### one day -/
/-- what scholar r is lent -/
def rowOf (p : Nat) (M : Mt) (r : Nat) : Val := match M.find? fun e => decide (e.2 = r ∧ e.1 < p) with
  | some e => nv e.1
  | none => .non
def dayL (s p : Nat) (M : Mt) : List Val := (List.range s).map (rowOf p M)
theorem rowOf_flat (p : Nat) (M : Mt) (r : Nat) : (rowOf p M r).flat = true := by
  unfold rowOf
  split <;> rfl
theorem rowOf_st (p : Nat) (M : Mt) (r : Nat) : (rowOf p M r).settle = rowOf p M r := by
  unfold rowOf
  split <;> rfl
theorem dayL_len (s p : Nat) (M : Mt) : (dayL s p M).length = s := by simp [dayL]
def Dst (S : Sto) (n : Nat) (W : Nat → Nat → Int) (F : List Val) (J : Sto) : Sto := S ++ (TBs n W ++ (.lst F :: J))
theorem Dst_snoc (S : Sto) (n : Nat) (W : Nat → Nat → Int) (F : List Val) (J : Sto) (x : Ob) : Dst S n W F J ++ [x] = Dst S n W F (J ++ [x]) := by simp [Dst]
theorem Dst_len (S : Sto) (n : Nat) (W : Nat → Nat → Int) (F : List Val) (J : Sto) : (Dst S n W F J).length = S.length + n + 1 + J.length := by
  simp [Dst, TBs_len]; omega
theorem Dst_found (S : Sto) (n : Nat) (W : Nat → Nat → Int) (F : List Val) (J : Sto) : (Dst S n W F J)[S.length + n]? = some (.lst F) := by
  unfold Dst
  rw [List.getElem?_append_right (by omega), List.getElem?_append_right (by rw [TBs_len]; omega), TBs_len]
  rw [show S.length + n - S.length - n = 0 by omega]
  rfl
theorem Dst_row (S : Sto) (n : Nat) (W : Nat → Nat → Int) (F : List Val) (J : Sto) (R : List Val) : (Dst S n W F (J ++ [.lst R]))[S.length + n + 1 + J.length]? = some (.lst R) := by
  rw [← Dst_snoc, ← Dst_len S n W F J]
  simp
theorem Dst_setF (S : Sto) (n : Nat) (W : Nat → Nat → Int) (F F' : List Val) (J : Sto) : (Dst S n W F J).set (S.length + n) (.lst F') = Dst S n W F' J := by
  unfold Dst
  rw [List.set_append_right _ _ (by omega), List.set_append_right _ _ (by rw [TBs_len]; omega), TBs_len]
  rw [show S.length + n - S.length - n = 0 by omega]
  rfl
theorem Dst_setR (S : Sto) (n : Nat) (W : Nat → Nat → Int) (F : List Val) (J : Sto) (R R' : List Val) : (Dst S n W F (J ++ [.lst R])).set (S.length + n + 1 + J.length) (.lst R') = Dst S n W F (J ++ [.lst R']) := by
  rw [← Dst_snoc, ← Dst_len S n W F J, List.set_append_right _ _ (Nat.le_refl _), Nat.sub_self, List.set_cons_zero, Dst_snoc]
theorem Dst_sq (S : Sto) (n : Nat) (W : Nat → Nat → Int) (F : List Val) (J : Sto) : Sq (Dst S n W F J) S.length n W := Sq_tb S _ n W
theorem Dst_setT {n r c : Nat} (hr : r < n) (hc : c < n) (b : Nat) (S : Sto) (W : Nat → Nat → Int) (F : List Val) (J : Sto) (x : Int) :
    QE.setIx b (Dst S n W F J) (.ref (S.length + r)) (nv c) (.int x) = .ok () (Dst S n (upd2 W r c x) F J) := setIx_tb hr hc b S _ W x
theorem off_snoc {W : Nat → Nat → Int} {Q : Mt} {c r : Nat} (h : (c, r) ∉ Q) : ∀ r' c', upd2 (off W Q) r c (off W Q r c - 1) r' c' = off W (Q ++ [(c, r)]) r' c' := by
  intro r' c'
  unfold upd2 off
  by_cases h1 : r' = r ∧ c' = c
  · obtain ⟨rfl, rfl⟩ := h1
    simp [h]
  · rw [if_neg h1]
    have : ((c', r') ∈ Q ++ [(c, r)]) ↔ (c', r') ∈ Q := by
      simp only [List.mem_append, List.mem_singleton, Prod.mk.injEq]
      constructor
      · rintro (h2 | h2)
        · exact h2
        · exact absurd ⟨h2.2, h2.1⟩ h1
      · exact .inl
    simp only [this]
theorem row_same {p r r' c : Nat} {Q : Mt} (h : ¬ (r = r' ∧ c < p)) : rowOf p (Q ++ [(c, r)]) r' = rowOf p Q r' := by
  unfold rowOf
  rw [List.find?_append]
  have : ([(c, r)] : Mt).find? (fun e => decide (e.2 = r' ∧ e.1 < p)) = none := by simp [h]
  rw [this, Option.or_none]
theorem row_new {p r c : Nat} {Q : Mt} (h : r ∉ vs Q) (hc : c < p) : rowOf p (Q ++ [(c, r)]) r = nv c := by
  unfold rowOf
  rw [List.find?_append]
  have h1 : Q.find? (fun e => decide (e.2 = r ∧ e.1 < p)) = none := by
    rw [List.find?_eq_none]
    intro e he z
    simp only [decide_eq_true_eq] at z
    exact h (List.mem_map.mpr ⟨e, he, z.1⟩)
  have h2 : ([(c, r)] : Mt).find? (fun e => decide (e.2 = r ∧ e.1 < p)) = some (c, r) := by simp [hc]
  rw [h1, h2]
  rfl
theorem day_snoc {s p r c : Nat} {Q : Mt} (h : r ∉ vs Q) : dayL s p (Q ++ [(c, r)]) = if r < s ∧ c < p then (dayL s p Q).set r (nv c) else dayL s p Q := by
  unfold dayL
  split
  · rename_i hh
    apply List.ext_getElem?
    intro i
    by_cases hi : i = r
    · subst hi
      rw [List.getElem?_set_self (by simpa using hh.1)]
      simp [List.getElem?_range hh.1, row_new h hh.2]
    · rw [List.getElem?_set_ne (fun z => hi z.symm)]
      simp only [List.getElem?_map]
      by_cases his : i < s
      · simp only [List.getElem?_range his, Option.map_some]
        rw [row_same (fun z => hi z.1.symm)]
      · simp [his]
  · rename_i hh
    apply List.map_congr_left
    intro i hi
    exact row_same fun z => hh ⟨by rw [z.1]; exact List.mem_range.mp hi, z.2⟩
theorem keys_nv (env : Env) (i : Nat) (M : Mt) (h : env[i]? = some (some (.dic false false (encM M)))) : keysAt env i = some (M.map fun e => nv e.1) := by
  simp only [keysAt, h, encM, List.map_map]
  rfl
section
variable {s p : Nat} {f : Nat → Nat → Nat}
def DE (s p : Nat) (f : Nat → Nat → Nat) (o : Nat) (x3 x4 x5 x6 : Option Val) : Env := [some (encF s p f), some (sq o (s + p)), some (.ref (o + (s + p))), x3, x4, x5, x6]
def dBody : List Stm := [(.augIx (.idx (.var 1) (.idx (.var 4) (.var 6))) (.var 6) .sub (.lit (.int 1))), (.if_ (.and [(.cmp .lt (.idx (.var 4) (.var 6)) (.bi .len [(.var 0)])), (.cmp .lt (.var 6) (.bi .len [(.idx (.var 0) (.lit (.int 0)))]))]) [(.setIx (.var 5) (.idx (.var 4) (.var 6)) (.var 6))] [])]
theorem lt_nv (a b : Nat) (S : Sto) : QE.cmp S .lt (nv a) (nv b) = some (decide (a < b)) := by
  simp [QE.cmp, ltVal, nv]
theorem cell_at {S : Sto} {a n c : Nat} {g : Nat → Int} (hS : S[a]? = some (rowO n g)) (h : c < n) : cellAt S (.ref a) (nv c) = some (g c) := by
  have := atI_nat (((List.range n).map fun c => Val.int (g c))) (i := c) (x := .int (g c)) (by simp [h])
  simp only [cellAt, hS, rowO, itemOf, nv, this]
theorem set_day {b : Nat} {S : Sto} {n : Nat} {W : Nat → Nat → Int} {F : List Val} {J : Sto} {R : List Val} {r : Nat} (c : Nat) (hr : r < R.length) :
    QE.setIx b (Dst S n W F (J ++ [.lst R])) (.ref (S.length + n + 1 + J.length)) (nv r) (nv c) = .ok () (Dst S n W F (J ++ [.lst (R.set r (nv c))])) := by
  have h1 := Dst_row S n W F J R
  simp only [QE.setIx, h1]
  show (match ixN R.length (r : Int) with | some j => _ | none => _) = _
  rw [ixN_nat hr]
  simp only [set_nv]
  rw [if_pos (by simp [mayPut, Val.low, nv]), Dst_setR]
theorem d_loop (hs : 0 < s) (c : Ctx) (S : Sto) (W : Nat → Nat → Int) (F : List Val) (J : Sto) {M : Mt} (hk : (ks M).Nodup) (hv : (vs M).Nodup) (hlt : ∀ e ∈ M, e.1 < s + p ∧ e.2 < s + p) (x3 : Option Val) :
    ∀ (T Q : Mt) (x6 : Option Val), Q ++ T = M →
    ∃ y6, forLoop (.name 6) (execSs c dBody) (T.map fun e => nv e.1) (DE s p f S.length x3 (some (.dic false false (encM M))) (some (.ref (S.length + (s + p) + 1 + J.length))) x6) (Dst S (s + p) (off W Q) F (J ++ [.lst (dayL s p Q)])) =
      .ok (.nx, DE s p f S.length x3 (some (.dic false false (encM M))) (some (.ref (S.length + (s + p) + 1 + J.length))) y6) (Dst S (s + p) (off W M) F (J ++ [.lst (dayL s p M)]))
  | [], Q, x6, e => by
    rw [List.append_nil] at e
    subst e
    exact ⟨x6, rfl⟩
  | (a, r) :: T, Q, x6, e => by
    have hm : (a, r) ∈ M := by rw [← e]; simp
    obtain ⟨ha, hr⟩ := hlt _ hm
    have hg := Kuhn.mem_get hk hm
    have hQ : (a, r) ∉ Q := fun z => by
      rw [← e] at hk
      simp only [ks, List.map_append, List.map_cons] at hk
      exact (List.nodup_append.mp hk).2.2 a (List.mem_map.mpr ⟨_, z, rfl⟩) a (by simp) rfl
    have hR : r ∉ vs Q := fun z => by
      rw [← e] at hv
      simp only [vs, List.map_append, List.map_cons] at hv
      exact (List.nodup_append.mp hv).2.2 r z r (by simp) rfl
    obtain ⟨y6, ih⟩ := d_loop hs c S W F J hk hv hlt x3 T (Q ++ [(a, r)]) (some (nv a)) (by rw [← e]; simp)
    refine ⟨y6, ?_⟩
    have i1 : ∀ T : Sto, item T (.dic false false (encM M)) (nv a) = some (nv r) := fun T => by
      simp only [item, asList, asDic, itemDic]
      rw [if_pos (show (nv a).isKey false = true from rfl), dGet_enc, hg]
      rfl
    have i2 : ∀ T : Sto, item T (sq S.length (s + p)) (nv r) = some (.ref (S.length + r)) := fun T => it_sq hr _ T
    have i3 := cell_at (Dst_sq S (s + p) (off W Q) F (J ++ [.lst (dayL s p Q)]) r hr) ha
    have i4 := Dst_setT hr ha c.base S (off W Q) F (J ++ [.lst (dayL s p Q)]) (off W Q r a - 1)
    have e4 : upd2 (off W Q) r a (off W Q r a - 1) = off W (Q ++ [(a, r)]) := by
      funext r' c'
      exact off_snoc hQ r' c'
    rw [e4] at i4
    have i5 : sumOf .sub (off W Q r a) (.int 1) = some (.int (off W Q r a - 1)) := rfl
    have hd := day_snoc (s := s) (p := p) (c := a) hR
    simp only [DE, dBody] at ih
    by_cases h1 : r < s
    · by_cases h2 : a < p
      · rw [if_pos ⟨h1, h2⟩] at hd
        have i6 := set_day (b := c.base) (S := S) (n := s + p) (W := off W (Q ++ [(a, r)])) (F := F) (J := J) (R := dayL s p Q) (r := r) a (by rw [dayL_len]; exact h1)
        rw [← hd] at i6
        simp only [List.map_cons, forLoop, bind_name, DE, set_nv, List.set_cons_succ, List.set_cons_zero, dBody, xs_cons, xs_nil, x_augIx, ev_idx, ev_var, ev_lit, List.getElem?_cons_succ, List.getElem?_cons_zero, QE.R.bind_okS, i1, i2, i3, i4, i5, QE.R.of_some, QE.R.calm_okS, x_if, ev_and, ea_cons, ea_nil, ev_cmp, ev_bi, es_cons, es_nil, set_encF, len_enc, it_enc0 hs, set_rowV, len_rowV, lt_nv, decide_eq_true h1, decide_eq_true h2, bl_ok, if_true, x_setIx, i6, ih]
      · rw [if_neg (fun z => h2 z.2)] at hd
        rw [hd] at ih
        simp only [List.map_cons, forLoop, bind_name, DE, set_nv, List.set_cons_succ, List.set_cons_zero, dBody, xs_cons, xs_nil, x_augIx, ev_idx, ev_var, ev_lit, List.getElem?_cons_succ, List.getElem?_cons_zero, QE.R.bind_okS, i1, i2, i3, i4, i5, QE.R.of_some, QE.R.calm_okS, x_if, ev_and, ea_cons, ea_nil, ev_cmp, ev_bi, es_cons, es_nil, set_encF, len_enc, it_enc0 hs, set_rowV, len_rowV, lt_nv, decide_eq_true h1, decide_eq_false h2, bl_ok, if_true, Bool.false_eq_true, if_false, ih]
    · rw [if_neg (fun z => h1 z.1)] at hd
      rw [hd] at ih
      simp only [List.map_cons, forLoop, bind_name, DE, set_nv, List.set_cons_succ, List.set_cons_zero, dBody, xs_cons, xs_nil, x_augIx, ev_idx, ev_var, ev_lit, List.getElem?_cons_succ, List.getElem?_cons_zero, QE.R.bind_okS, i1, i2, i3, i4, i5, QE.R.of_some, QE.R.calm_okS, x_if, ev_and, ea_cons, ea_nil, ev_cmp, ev_bi, es_cons, es_nil, set_encF, len_enc, lt_nv, decide_eq_false h1, bl_ok, Bool.false_eq_true, if_false, ih]
end
end K68

set_option linter.all false
set_option maxRecDepth 10000
namespace K68
open QE
open Kuhn (Mt get put ks vs Reg Perf off)
section
variable {s p : Nat} {f : Nat → Nat → Nat}
theorem lowL_day (b : Nat) (M : Mt) : ∀ l : List Nat, Val.lowL b (l.map (rowOf p M)) = true
  | [] => by simp [Val.lowL]
  | x :: l => by
    have h := rowOf_flat p M x
    have : (rowOf p M x).low b = true := by
      revert h
      generalize rowOf p M x = v
      cases v <;> simp [Val.flat, Val.low]
    simp [Val.lowL, this, lowL_day b M l]
theorem lowL_days (b : Nat) : ∀ l : List Mt, Val.lowL b (l.map fun M => .ptup (dayL s p M)) = true
  | [] => by simp [Val.lowL]
  | M :: l => by
    have := lowL_day b (p := p) M (List.range s)
    simp [Val.lowL, Val.low, dayL, this]
    exact lowL_days b l
theorem all_flat (M : Mt) : (dayL s p M).all Val.flat = true := by
  simp [dayL, rowOf_flat]
theorem day_nil : dayL s p [] = List.replicate s .non := by
  unfold dayL
  rw [show (List.range s).map (rowOf p []) = (List.range s).map fun _ => Val.non from rfl, List.map_const', List.length_range]
def dayBody : List Stm := [(.asg (.name 4) (.call 10 [(.var 1)])), (.asg (.name 5) (.cell (.bin .mul (.list [(.lit .non)]) (.bi .len [(.var 0)])))), (.forD (.name 6) 4 dBody), (.expr (.append (.var 2) (.bi .ptuple [(.var 5)])))]
theorem off_nil (W : Nat → Nat → Int) : off W [] = W := by
  funext r c
  simp [off]
theorem days_loop (h : VF s p f) (K : Nat) (hK : s + p + 1 ≤ K) (S : Sto) : ∀ (l : List Nat) (W : Nat → Nat → Int) (F : List Val) (J : Sto) (x3 x4 x5 x6 : Option Val), Reg W (s + p) l.length → F.length + l.length ≤ 1000 →
    ∃ (W' : Nat → Nat → Int) (J' : Sto) (y3 y4 y5 y6 : Option Val), forLoop (.name 3) (execSs (cxt prog (K + 1) S.length) dayBody) (l.map nv) (DE s p f S.length x3 x4 x5 x6) (Dst S (s + p) W F J) =
      .ok (.nx, DE s p f S.length y3 y4 y5 y6) (Dst S (s + p) W' (F ++ (Kuhn.days (s + p) l.length W).map fun M => .ptup (dayL s p M)) J')
  | [], W, F, J, x3, x4, x5, x6, _, _ => ⟨W, J, x3, x4, x5, x6, by simp [Kuhn.days, forLoop]⟩
  | x :: l, W, F, J, x3, x4, x5, x6, R, hl => by
    simp only [List.length_cons] at hl R
    have hs1 := h.s1
    have hs2 := h.s2
    have hp2 := h.p2
    have P := Kuhn.all_perf R (by omega)
    have hm := mat (Dst_sq S (s + p) W F J) (by omega) K hK
    have R2 := Kuhn.off_reg R P
    rw [show ((l.length + 1 : Nat) : Int) - 1 = l.length by omega] at R2
    rw [List.length_cons, Kuhn.days]
    revert hm R2 P
    generalize Kuhn.all W (s + p) (List.range (s + p)) [] = M
    intro P hm R2
    obtain ⟨y6, hd⟩ := d_loop (f := f) (show 0 < s by omega) (cxt prog (K + 1) S.length) S W F J (M := M) P.good.nd P.nd2 (fun e he => ⟨(P.good.ok e he).1, by
      have : e.2 ∈ vs M := List.mem_map.mpr ⟨e, he, rfl⟩
      exact List.mem_range.mp (P.vals.mem_iff.mp this)⟩) (some (nv x)) M [] x6 rfl
    rw [off_nil, day_nil] at hd
    have hlen : F.length < lim := by simp only [lim]; omega
    have ap : QE.append S.length (Dst S (s + p) (off W M) F (J ++ [.lst (dayL s p M)])) (.ref (S.length + (s + p))) (.ptup (dayL s p M)) = .ok .non (Dst S (s + p) (off W M) (F ++ [.ptup (dayL s p M)]) (J ++ [.lst (dayL s p M)])) := by
      have h1 := Dst_found S (s + p) (off W M) F (J ++ [.lst (dayL s p M)])
      simp only [QE.append, h1]
      rw [if_pos (by simp [hlen, mayPut]), set_ptup, Dst_setF]
    obtain ⟨W', J', y3, y4, y5, y6', ih⟩ := days_loop h K hK S l (off W M) (F ++ [.ptup (dayL s p M)]) (J ++ [.lst (dayL s p M)]) (some (nv x)) (some (.dic false false (encM M))) (some (.ref (S.length + (s + p) + 1 + J.length))) y6 R2 (by simp; omega)
    refine ⟨W', J', y3, y4, y5, y6', ?_⟩
    rw [List.append_assoc] at ih
    simp only [List.map_cons, forLoop, bind_name]
    have hbody : execSs (cxt prog (K + 1) S.length) dayBody ((DE s p f S.length x3 x4 x5 x6).set 3 (some (nv x).settle)) (Dst S (s + p) W F J) =
        .ok (.nx, DE s p f S.length (some (nv x)) (some (.dic false false (encM M))) (some (.ref (S.length + (s + p) + 1 + J.length))) y6) (Dst S (s + p) (off W M) (F ++ [.ptup (dayL s p M)]) (J ++ [.lst (dayL s p M)])) := by
      refine ss_step (env' := DE s p f S.length (some (nv x)) (some (.dic false false (encM M))) x5 x6) (S' := Dst S (s + p) W F J) (by
        simp only [DE, set_nv, List.set_cons_succ, List.set_cons_zero, x_asg, ev_call, es_cons, es_nil, ev_var, List.getElem?_cons_succ, List.getElem?_cons_zero, QE.R.bind_okS, set_sq, cxt_call, hm, QE.R.calm_okS, bind_name, set_dic, QE.R.of_some]) ?_
      refine ss_step (env' := DE s p f S.length (some (nv x)) (some (.dic false false (encM M))) (some (.ref (S.length + (s + p) + 1 + J.length))) x6) (S' := Dst S (s + p) W F (J ++ [.lst (List.replicate s .non)])) (by
        have hmul : ∀ T : Sto, QE.bin T .mul (.lst true [.non]) (nv s) = some (.lst true (List.replicate s .non)) := fun T => by
          simp only [QE.bin, mulV, nv]
          rw [if_pos (by simp; omega)]
          simp [rep_one]
        have l1 : (1 : Nat) ≤ lim := by simp [lim]
        simp only [DE, x_asg, ev_cell, ev_bin, ev_list, es_cons, es_nil, ev_lit, QE.R.bind_okS, set_non, List.length_cons, List.length_nil, Nat.zero_add, l1, if_true, ev_bi, ev_var, List.getElem?_cons_zero, set_encF, len_enc, QE.R.of_some, hmul, newCell, Dst_snoc, Dst_len, QE.R.calm_okS, bind_name, set_ref, List.set_cons_succ, List.set_cons_zero]) ?_
      refine ss_step (x_forD (keys_nv _ 4 M (by simp [DE])) hd) ?_
      have ht : callBi (Dst S (s + p) (off W M) F (J ++ [.lst (dayL s p M)])) .ptuple [.ref (S.length + (s + p) + 1 + J.length)] = some (.ptup (dayL s p M)) := by
        have h1 := Dst_row S (s + p) (off W M) F J (dayL s p M)
        simp only [callBi, ptupleOf, asList, h1]
        rw [if_pos (all_flat M)]
      have hal : asList (Dst S (s + p) (off W M) F (J ++ [.lst (dayL s p M)])) (.ref (S.length + (s + p))) = some F := by
        have h1 := Dst_found S (s + p) (off W M) F (J ++ [.lst (dayL s p M)])
        simp only [asList, h1]
      simp only [DE, xs_cons, xs_nil, x_expr, ev_append, ev_var, ev_bi, es_cons, es_nil, List.getElem?_cons_succ, List.getElem?_cons_zero, QE.R.bind_okS, hal, QE.R.of_some, set_ref, ht, set_ptup, cxt_base, ap, QE.R.calm_okS]
    rw [hbody]
    simp only [QE.R.bind_okS]
    rw [ih]
    simp
/-- the table of days -/
def tabM (s p : Nat) (f : Nat → Nat → Nat) : List Mt := Kuhn.days (s + p) (load s p f) (We s p f (load s p f) p)
def tabL (s p : Nat) (f : Nat → Nat → Nat) : List Val := (tabM s p f).map fun M => .ptup (dayL s p M)
theorem tabL_len (s p : Nat) (f : Nat → Nat → Nat) : (tabL s p f).length = load s p f := by simp [tabL, tabM, Kuhn.days_len]
theorem days_in (h : VF s p f) (K : Nat) (hK : s + p + 1 ≤ K) (S : Sto) : callFn prog (K + 2) 11 [encF s p f] S = .ok (.lst true (tabL s p f)) S := by
  have hs1 := h.s1
  have hp1 := h.p1
  have hL := h.load_le
  obtain ⟨k, rfl⟩ : ∃ k, K = k + 2 := ⟨K - 2, by omega⟩
  obtain ⟨W', J', y3, y4, y5, y6, hl⟩ := days_loop h (k + 2) hK S (List.range (load s p f)) (We s p f (load s p f) p) [] [] none none none none (by rw [List.length_range]; exact We_reg h) (by simp; omega)
  rw [List.length_range, List.nil_append] at hl
  rw [run_fn (d := d_days_in) rfl rfl]
  have hp := padded h k S
  rw [List.append_nil] at hp
  have hfin : finish S.length (.ok (.rt (.ref (S.length + (s + p))), DE s p f S.length y3 y4 y5 y6) (Dst S (s + p) W' (tabL s p f) J')) = .ok (.lst true (tabL s p f)) S := by
    have h1 : ¬ (Dst S (s + p) W' (tabL s p f) J').length ≤ S.length := by rw [Dst_len]; omega
    have h2 : ¬ (S.length + (s + p) < S.length) := by omega
    simp only [finish, h1, if_false, freeze, freeze1, h2, Dst_found]
    rw [if_pos (show Val.lowL S.length (tabL s p f) = true from lowL_days _ _)]
    simp [Dst]
  refine Eq.trans (congrArg (finish S.length) ?_) hfin
  refine ss_step (env' := DE s p f S.length none none none none) (S' := Dst S (s + p) (We s p f (load s p f) p) [] []) (by
    show execS (cxt prog (k + 3) S.length) _ [some (encF s p f), none, none, none, none, none, none] S = _
    have l0 : (0 : Nat) ≤ lim := Nat.zero_le _
    simp only [x_par, es_cons, es_nil, ev_call, ev_var, List.getElem?_cons_zero, QE.R.bind_okS, set_encF, cxt_call, hp, ev_cell, ev_list, List.length_nil, l0, if_true, newCell, set_sq, set_ref, QE.R.calm_okS]
    simp [setAll, DE, Dst, TBs_len]) ?_
  have hg := gload h (k + 1)
  refine ss_step (x_for (xs := (List.range (load s p f)).map nv) (S1 := Dst S (s + p) (We s p f (load s p f) p) [] []) (by
    simp only [sr_1, ev_call, es_cons, es_nil, DE, ev_var, List.getElem?_cons_zero, QE.R.bind_okS, set_encF, cxt_call, hg, int_nv]
    exact rng_ok _ _ (by omega)) hl) ?_
  simp only [xs_cons, x_ret, DE, ev_var, List.getElem?_cons_succ, List.getElem?_cons_zero, QE.R.calm_okS, QE.R.bind_okS]
  rfl
theorem day_table (h : VF s p f) (K : Nat) (hK : s + p + 1 ≤ K) (S : Sto) : callFn prog (K + 3) 17 [encF s p f] S = .ok (.tup (tabL s p f)) S := by
  rw [run_fn (d := d_day_table) rfl rfl]
  have hs1 := h.s1
  have hp1 := h.p1
  have h1 := days_in h K hK S
  obtain ⟨k, rfl⟩ : ∃ k, K = k + 2 := ⟨K - 2, by omega⟩
  have h2 := need h k S
  simp [d_day_table, h1, h2, callBi, tupleOf, asSeq, asList]
end
end K68

set_option linter.all false
set_option maxRecDepth 10000
namespace K68
open QE
open Kuhn (Mt get put ks vs Reg Perf off)
def ov : Option Nat → Val
  | some c => nv c
  | none => .non
@[simp] theorem set_ov (x : Option Nat) : (ov x).settle = ov x := by cases x <;> exact id rfl
theorem ov_flat (x : Option Nat) : (ov x).flat = true := by cases x <;> rfl
def valD (s : Nat) (g : Nat → Option Nat) : Val := .ptup ((List.range s).map fun r => ov (g r))
def valT (s : Nat) (gs : List (Nat → Option Nat)) : Val := .tup (gs.map (valD s))
@[simp] theorem set_valD (s : Nat) (g : Nat → Option Nat) : (valD s g).settle = valD s g := by exact id rfl
@[simp] theorem set_valT (s : Nat) (gs : List (Nat → Option Nat)) : (valT s gs).settle = valT s gs := by exact id rfl
structure FT (s p : Nat) (f : Nat → Nat → Nat) (gs : List (Nat → Option Nat)) : Prop where
  lt : ∀ g ∈ gs, ∀ r c, r < s → g r = some c → c < p
  inj : ∀ g ∈ gs, ∀ r r' c, r < s → r' < s → g r = some c → g r' = some c → r = r'
  cnt : ∀ r c, r < s → c < p → (gs.countP fun g => decide (g r = some c)) = f r c
  len : gs.length ≤ 1000
theorem is_ov (x : Option Nat) (S : Sto) : QE.cmp S .is_ (ov x) .non = some (!x.isSome) := by cases x <;> rfl
theorem isn_ov (x : Option Nat) (S : Sto) : QE.cmp S .isn (ov x) .non = some x.isSome := by cases x <;> rfl
theorem eqv_nv (a b : Nat) : (nv a).eqv (nv b) = decide (a = b) := by
  show ((a : Int) == (b : Int)) = _
  by_cases h : a = b
  · subst h; simp
  · rw [decide_eq_false h]
    exact beq_eq_false_iff_ne.mpr (by omega)
theorem eqv_ov (x : Option Nat) (c : Nat) : (ov x).eqv (nv c) = decide (x = some c) := by
  cases x with
  | none => simp [ov, nv, Val.eqv]
  | some a =>
    show (nv a).eqv (nv c) = _
    rw [eqv_nv]
    simp
theorem count_nv (S : Sto) (b : Bool) (l : List Nat) (c : Nat) : callMe S .count (.lst b (l.map nv)) [nv c] = some (nv (l.count c)) := by
  have h1 : (l.map nv).all Val.flat = true := by simp [nv, Val.flat]
  have h2 : (nv c).flat = true := rfl
  simp only [callMe, asList, countV, h1, h2, Bool.and_self, if_true]
  rw [List.countP_map]
  congr 2
  rw [List.count]
  congr 1
  apply List.countP_congr
  intro a _
  simp [eqv_nv]
theorem count_ov {α : Type} (S : Sto) (b : Bool) (l : List α) (g : α → Option Nat) (c : Nat) : callMe S .count (.lst b (l.map fun a => ov (g a))) [nv c] = some (nv (l.countP fun a => decide (g a = some c))) := by
  have h1 : (l.map fun a => ov (g a)).all Val.flat = true := by simp [ov_flat]
  have h2 : (nv c).flat = true := rfl
  simp only [callMe, asList, countV, h1, h2, Bool.and_self, if_true]
  rw [List.countP_map]
  congr 2
  congr 1
  apply List.countP_congr
  intro a _
  simp [eqv_ov]
theorem eq_nv (S : Sto) (a c : Nat) : QE.cmp S .eq (nv a) (nv c) = some (decide (a = c)) := by
  have e : eqVal S (nv a) (nv c) = some ((nv a).eqv (nv c)) := by
    unfold eqVal
    rw [if_pos (by simp [res, nv, Val.chk])]
    rfl
  simp only [QE.cmp, e, eqv_nv]
theorem filter_ov (g : Nat → Option Nat) : ∀ l : List Nat, (l.filter fun r => (g r).isSome).map (fun r => ov (g r)) = (l.filterMap g).map nv
  | [] => rfl
  | x :: l => by
    cases h : g x with
    | none => simp [List.filter_cons, h, filter_ov g l]
    | some c =>
      have ih := filter_ov g l
      simp only [List.filter_cons, h, Option.isSome_some, if_true, List.map_cons, List.filterMap_cons, ih]
      rfl
theorem count_one {c : Nat} : ∀ {l : List Nat}, l.Nodup → c ∈ l → l.count c = 1
  | [], _, h => by cases h
  | x :: l, nd, h => by
    have nd' := List.nodup_cons.mp nd
    rw [List.count_cons]
    by_cases e : x = c
    · subst e
      rw [List.count_eq_zero_of_not_mem nd'.1]
      simp
    · have : c ∈ l := by
        rcases List.mem_cons.mp h with z | z
        · exact absurd z.symm e
        · exact z
      rw [count_one nd'.2 this]
      simp [e]
theorem fm_nodup {g : Nat → Option Nat} : ∀ {l : List Nat}, l.Nodup → (∀ r ∈ l, ∀ r' ∈ l, ∀ c, g r = some c → g r' = some c → r = r') → (l.filterMap g).Nodup
  | [], _, _ => by simp
  | x :: l, nd, h => by
    have ih := fm_nodup (g := g) (List.nodup_cons.mp nd).2 fun r hr r' hr' c => h r (List.mem_cons_of_mem _ hr) r' (List.mem_cons_of_mem _ hr') c
    rw [List.filterMap_cons]
    cases hx : g x with
    | none => exact ih
    | some c =>
      refine List.nodup_cons.mpr ⟨fun z => ?_, ih⟩
      obtain ⟨r, hr, e⟩ := List.mem_filterMap.mp z
      have := h x (by simp) r (List.mem_cons_of_mem _ hr) c hx e
      exact (List.nodup_cons.mp nd).1 (this ▸ hr)
section
variable {s p : Nat} {f : Nat → Nat → Nat} {gs : List (Nat → Option Nat)}
def TE (s p : Nat) (f : Nat → Nat → Nat) (gs : List (Nat → Option Nat)) (x2 x3 x4 x5 x6 x7 : Option Val) : Env := [some (encF s p f), some (valT s gs), x2, x3, x4, x5, x6, x7]
def t1Body : List Stm := [(.if_ (.not (.bi .all [(.comp [6] (.name 6) (.it (.var 2)) [] (.or [(.cmp .is_ (.var 6) (.lit .non)), (.call 1 [(.var 6), (.lit (.int 0)), (.bin .sub (.bi .len [(.idx (.var 0) (.lit (.int 0)))]) (.lit (.int 1)))])]))])) [(.ret (.lit (.bl false)))] []), (.asg (.name 3) (.comp [6] (.name 6) (.it (.var 2)) [(.cmp .isn (.var 6) (.lit .non))] (.var 6))), (.if_ (.not (.bi .all [(.comp [6] (.name 6) (.it (.var 3)) [] (.cmp .eq (.meth .count (.var 3) (.var 6)) (.lit (.int 1))))])) [(.ret (.lit (.bl false)))] [])]
def t2Body : List Stm := [(.asg (.name 5) (.comp [2] (.name 2) (.it (.var 1)) [] (.idx (.var 2) (.var 4)))), (.if_ (.not (.bi .all [(.comp [7] (.name 7) (.rng1 (.bi .len [(.idx (.var 0) (.lit (.int 0)))])) [] (.cmp .eq (.meth .count (.var 5) (.var 7)) (.idx (.idx (.var 0) (.var 4)) (.var 7))))])) [(.ret (.lit (.bl false)))] [])]
theorem t1_turn (h : VF s p f) (ht : FT s p f gs) {g : Nat → Option Nat} (hg : g ∈ gs) (k b : Nat) (S : Sto) (x3 x4 x5 x6 x7 : Option Val) :
    execSs (cxt prog (k + 2) b) t1Body (TE s p f gs (some (valD s g)) x3 x4 x5 x6 x7) S = .ok (.nx, TE s p f gs (some (valD s g)) (some (.lst false (((List.range s).filterMap g).map nv))) x4 x5 x6 x7) S := by
  have hs1 := h.s1
  have hs2 := h.s2
  have hp1 := h.p1
  have hp2 := h.p2
  have hlim : (List.range s).length ≤ lim := small_lim (by simp; omega)
  have hw : ∀ env : Env, env[2]? = some (some (valD s g)) → evalSrc (cxt prog (k + 2) b) (.it (.var 2)) env S = .ok ((List.range s).map fun r => ov (g r)) S := fun env he => by
    simp only [sr_it, ev_var, he, QE.R.bind_okS, valD, walkOf, QE.R.of_some]
  have a1 : evalE (cxt prog (k + 2) b) (.bi .all [(.comp [6] (.name 6) (.it (.var 2)) [] (.or [(.cmp .is_ (.var 6) (.lit .non)), (.call 1 [(.var 6), (.lit (.int 0)), (.bin .sub (.bi .len [(.idx (.var 0) (.lit (.int 0)))]) (.lit (.int 1)))])]))]) (TE s p f gs (some (valD s g)) x3 x4 x5 x6 x7) S = .ok (.bl true) S := by
    rw [ev_allc (fun r => ov (g r)) (fun _ => true) (List.range s) (hw _ (by simp [TE])) hlim fun r hr => ⟨TE s p f gs (some (valD s g)) x3 x4 x5 (some (ov (g r))) x7, by simp [wipe, TE], by
      cases hgr : g r with
      | none =>
        simp only [TE, ev_or, eor_cons, eor_nil, ev_cmp, ev_var, ev_lit, List.getElem?_cons_succ, List.getElem?_cons_zero, QE.R.bind_okS, is_ov, QE.R.of_some, bl_ok, Option.isSome_none, Bool.not_false, if_true]
      | some c =>
        have hc := ht.lt g hg r c (List.mem_range.mp hr) hgr
        have hf : callFn prog (k + 2) 1 [nv c, .int 0, .int ((p : Int) - (1 : Nat))] S = .ok (.bl true) S := by
          show callFn prog (k + 2) 1 [.int (c : Int), .int 0, .int ((p : Int) - (1 : Nat))] S = _
          rw [fw_int]
          simp
          omega
        have h1 : (Val.int 1) = nv 1 := rfl
        simp only [TE, ev_or, eor_cons, eor_nil, ev_cmp, ev_var, ev_lit, List.getElem?_cons_succ, List.getElem?_cons_zero, QE.R.bind_okS, is_ov, QE.R.of_some, bl_ok, Option.isSome_some, Bool.not_true, Bool.false_eq_true, if_false, ev_call, es_cons, es_nil, ev_bin, ev_bi, ev_idx, it_enc0 (show 0 < s by omega), set_rowV, len_rowV, h1, nv_sub, set_ov, set_int, cxt_call]
        show ((callFn prog (k + 2) 1 [nv c, .int 0, .int ((p : Int) - (1 : Nat))] S).bind _).bind _ = _
        rw [hf]
        simp only [QE.R.bind_okS, bl_ok, if_true]⟩]
    simp
  have a2 : evalE (cxt prog (k + 2) b) (.comp [6] (.name 6) (.it (.var 2)) [(.cmp .isn (.var 6) (.lit .non))] (.var 6)) (TE s p f gs (some (valD s g)) x3 x4 x5 x6 x7) S = .ok (.lst true (((List.range s).filterMap g).map nv)) S := by
    have hr := comp_run (tg := .name 6) (test := evalAnd (cxt prog (k + 2) b) [(.cmp .isn (.var 6) (.lit .non))]) (elt := evalE (cxt prog (k + 2) b) (.var 6)) (env := wipe (TE s p f gs (some (valD s g)) x3 x4 x5 x6 x7) [6]) (S := S) (fun r => ov (g r)) (fun r => (g r).isSome) (fun r => ov (g r)) (List.range s) fun r hr =>
      ⟨TE s p f gs (some (valD s g)) x3 x4 x5 (some (ov (g r))) x7, by simp [wipe, TE], by simp only [TE, ea_cons, ea_nil, ev_cmp, ev_var, ev_lit, List.getElem?_cons_succ, List.getElem?_cons_zero, QE.R.bind_okS, isn_ov, QE.R.of_some, bl_ok]; cases (g r).isSome <;> rfl, fun _ => by simp [TE]⟩
    simp only [set_ov, filter_ov] at hr
    refine ev_comp (hw _ (by simp [TE])) hr ?_
    have := List.length_filterMap_le g (List.range s)
    rw [List.length_map]
    exact Nat.le_trans this hlim
  have nd : ((List.range s).filterMap g).Nodup := fm_nodup List.nodup_range fun r hr r' hr' c => ht.inj g hg r r' c (List.mem_range.mp hr) (List.mem_range.mp hr')
  have hl2 : ((List.range s).filterMap g).length ≤ lim := Nat.le_trans (List.length_filterMap_le g (List.range s)) hlim
  have a3 : evalE (cxt prog (k + 2) b) (.bi .all [(.comp [6] (.name 6) (.it (.var 3)) [] (.cmp .eq (.meth .count (.var 3) (.var 6)) (.lit (.int 1))))]) (TE s p f gs (some (valD s g)) (some (.lst false (((List.range s).filterMap g).map nv))) x4 x5 x6 x7) S = .ok (.bl true) S := by
    rw [ev_allc nv (fun _ => true) ((List.range s).filterMap g) (by simp [TE, walkOf]) hl2 fun c hc => ⟨TE s p f gs (some (valD s g)) (some (.lst false (((List.range s).filterMap g).map nv))) x4 x5 (some (nv c)) x7, by simp [wipe, TE], by
      have h1 : (Val.int 1) = nv 1 := rfl
      have hcnt : ((List.range s).filterMap g).count c = 1 := count_one nd hc
      simp only [TE, ev_cmp, ev_meth, ev_var, ev_lit, List.getElem?_cons_succ, List.getElem?_cons_zero, QE.R.bind_okS, recOf, asList, QE.R.of_some, set_nv, count_nv, hcnt, h1, eq_nv, decide_true]⟩]
    first | (simp; done) | (simp; intro x _; cases g x <;> rfl)
  refine ss_step (env' := TE s p f gs (some (valD s g)) x3 x4 x5 x6 x7) (S' := S) (by
    simp only [x_if, ev_not, a1, QE.R.bind_okS, bl_ok, Bool.not_true, QE.R.calm_okS, Bool.false_eq_true, if_false, xs_nil]) ?_
  refine ss_step (env' := TE s p f gs (some (valD s g)) (some (.lst false (((List.range s).filterMap g).map nv))) x4 x5 x6 x7) (S' := S) (by
    simp only [x_asg, a2, QE.R.calm_okS, QE.R.bind_okS, bind_name, set_lst, QE.R.of_some]
    rfl) ?_
  simp only [xs_cons, xs_nil, x_if, ev_not, a3, QE.R.bind_okS, bl_ok, Bool.not_true, QE.R.calm_okS, Bool.false_eq_true, if_false]
theorem t2_turn (h : VF s p f) (ht : FT s p f gs) {r : Nat} (hr : r < s) (c : Ctx) (S : Sto) (x2 x3 x5 x6 x7 : Option Val) :
    execSs c t2Body (TE s p f gs x2 x3 (some (nv r)) x5 x6 x7) S = .ok (.nx, TE s p f gs x2 x3 (some (nv r)) (some (.lst false (gs.map fun g => ov (g r)))) x6 x7) S := by
  have hs1 := h.s1
  have hs2 := h.s2
  have hp1 := h.p1
  have hp2 := h.p2
  have a1 : evalE c (.comp [2] (.name 2) (.it (.var 1)) [] (.idx (.var 2) (.var 4))) (TE s p f gs x2 x3 (some (nv r)) x5 x6 x7) S = .ok (.lst true (gs.map fun g => ov (g r))) S :=
    ev_compc (valD s) (fun g => ov (g r)) gs (by simp [TE, valT, walkOf]) (small_lim (by have := ht.len; omega)) (fun g hg => ⟨TE s p f gs (some (valD s g)) x3 (some (nv r)) x5 x6 x7, by simp [wipe, TE], by
      have : item S (valD s g) (nv r) = some (ov (g r)) := by
        show itemOf _ (.int (r : Int)) = _
        exact atI_nat _ (by simp [hr])
      simp only [TE, ev_idx, ev_var, List.getElem?_cons_succ, List.getElem?_cons_zero, QE.R.bind_okS, this, QE.R.of_some]⟩) (fun _ => set_ov _)
  have a2 : evalE c (.bi .all [(.comp [7] (.name 7) (.rng1 (.bi .len [(.idx (.var 0) (.lit (.int 0)))])) [] (.cmp .eq (.meth .count (.var 5) (.var 7)) (.idx (.idx (.var 0) (.var 4)) (.var 7))))]) (TE s p f gs x2 x3 (some (nv r)) (some (.lst false (gs.map fun g => ov (g r)))) x6 x7) S = .ok (.bl true) S := by
    rw [ev_allc nv (fun _ => true) (List.range p) (by
      simp only [TE, sr_1, ev_bi, es_cons, es_nil, ev_idx, ev_var, ev_lit, List.getElem?_cons_zero, QE.R.bind_okS, it_enc0 (show 0 < s by omega), QE.R.of_some, set_rowV, len_rowV, int_nv]
      exact rng_ok S p (by omega)) (small_lim (by simp; omega)) fun q hq => ⟨TE s p f gs x2 x3 (some (nv r)) (some (.lst false (gs.map fun g => ov (g r)))) x6 (some (nv q)), by simp [wipe, TE], by
      have hqp := List.mem_range.mp hq
      have hc := ht.cnt r q hr hqp
      simp only [TE, ev_cmp, ev_meth, ev_var, ev_idx, List.getElem?_cons_succ, List.getElem?_cons_zero, QE.R.bind_okS, recOf, asList, QE.R.of_some, set_nv, count_ov, hc, it_enc hr, it_row' hqp, eq_nv, decide_true]⟩]
    simp
  refine ss_step (env' := TE s p f gs x2 x3 (some (nv r)) (some (.lst false (gs.map fun g => ov (g r)))) x6 x7) (S' := S) (by
    simp only [x_asg, a1, QE.R.calm_okS, QE.R.bind_okS, bind_name, set_lst, QE.R.of_some]
    rfl) ?_
  simp only [xs_cons, xs_nil, x_if, ev_not, a2, QE.R.bind_okS, bl_ok, Bool.not_true, QE.R.calm_okS, Bool.false_eq_true, if_false]
theorem fits_tab (h : VF s p f) (ht : FT s p f gs) (k : Nat) (S : Sto) : callFn prog (k + 3) 7 [encF s p f, valT s gs] S = .ok (.bl true) S := by
  have hs1 := h.s1
  have hs2 := h.s2
  have hp1 := h.p1
  have hp2 := h.p2
  have hgl := ht.len
  rw [run_fn (d := d_fits_table) rfl rfl]
  have a0 : evalE (cxt prog (k + 2) S.length) (.isi .tuple (.var 1)) (TE s p f gs none none none none none none) S = .ok (.bl true) S := by simp [TE, valT, isTy, tyName]
  have a1 : evalE (cxt prog (k + 2) S.length) (.bi .all [(.comp [2] (.name 2) (.it (.var 1)) [] (.call 2 [(.var 2), (.bi .len [(.var 0)]), (.bi .len [(.var 0)])]))]) (TE s p f gs none none none none none none) S = .ok (.bl true) S := by
    rw [ev_allc (valD s) (fun _ => true) gs (by simp [TE, valT, walkOf]) (small_lim (by omega)) fun g hg => ⟨TE s p f gs (some (valD s g)) none none none none none, by simp [wipe, TE], by
      have : callFn prog (k + 2) 2 [valD s g, nv s, nv s] S = .ok (.bl true) S := by
        unfold valD
        show callFn prog (k + 2) 2 [.ptup _, .int (s : Int), .int (s : Int)] S = _
        rw [tu_ptup]
        simp
      simp only [TE, ev_call, es_cons, es_nil, ev_var, ev_bi, List.getElem?_cons_succ, List.getElem?_cons_zero, QE.R.bind_okS, set_encF, len_enc, QE.R.of_some, set_valD, set_nv, cxt_call, this]⟩]
    simp
  obtain ⟨e1, S1, l1, ⟨y2, y3, l2⟩, l3⟩ := for_run (tg := .name 2) (body := execSs (cxt prog (k + 2) S.length) t1Body) (valD s) (fun _ env S' => (∃ y2 y3, env = TE s p f gs y2 y3 none none none none) ∧ S' = S) gs 0 (TE s p f gs none none none none none none) S ⟨⟨none, none, rfl⟩, rfl⟩ (by
    intro i g env S' hi ⟨⟨y2, y3, e1⟩, e2⟩
    subst e1 e2
    exact ⟨TE s p f gs (some (valD s g)) y3 none none none none, _, _, by rw [bind_name]; rfl, t1_turn h ht (List.mem_of_getElem? hi) k _ _ y3 none none none none, ⟨⟨_, _, rfl⟩, rfl⟩⟩)
  subst l2 l3
  obtain ⟨e2, S2, m1, ⟨y4, y5, m2⟩, m3⟩ := for_run (tg := .name 4) (body := execSs (cxt prog (k + 2) S1.length) t2Body) nv (fun _ env S' => (∃ y4 y5, env = TE s p f gs y2 y3 y4 y5 none none) ∧ S' = S1) (List.range s) 0 (TE s p f gs y2 y3 none none none none) S1 ⟨⟨none, none, rfl⟩, rfl⟩ (by
    intro i r env S' hi ⟨⟨y4, y5, e1⟩, e2⟩
    subst e1 e2
    have hr : r < s := List.mem_range.mp (List.mem_of_getElem? hi)
    exact ⟨TE s p f gs y2 y3 (some (nv r)) y5 none none, _, _, by rw [bind_name]; rfl, t2_turn h ht hr _ _ y2 y3 y5 none none, ⟨⟨_, _, rfl⟩, rfl⟩⟩)
  subst m2 m3
  show finish S2.length (execSs (cxt prog (k + 2) S2.length) d_fits_table.body (TE s p f gs none none none none none none) S2) = _
  refine Eq.trans (congrArg (finish S2.length) ?_) (fin_rt S2 (.bl true) (TE s p f gs y2 y3 y4 y5 none none))
  refine ss_step (env' := TE s p f gs none none none none none none) (S' := S2) (by
    simp only [x_if, ev_or, eor_cons, eor_nil, ev_not, a0, a1, QE.R.bind_okS, bl_ok, Bool.not_true, QE.R.calm_okS, Bool.false_eq_true, if_false, xs_nil]) ?_
  refine ss_step (x_for (xs := gs.map (valD s)) (S1 := S2) (by simp [TE, valT, walkOf]) l1) ?_
  refine ss_step (x_for (xs := (List.range s).map nv) (S1 := S2) (by
    simp only [TE, sr_1, ev_bi, es_cons, es_nil, ev_var, List.getElem?_cons_zero, QE.R.bind_okS, set_encF, len_enc, QE.R.of_some, int_nv]
    exact rng_ok _ s (by omega)) m1) ?_
  simp only [xs_cons, x_ret, ev_lit, QE.R.calm_okS, QE.R.bind_okS]
end
end K68

set_option linter.all false
set_option maxRecDepth 10000
namespace K68
open QE
open Kuhn (Mt get put ks vs Reg Perf off)
/-! ### the table fits -/
def lentM (p : Nat) (M : Mt) (r : Nat) : Option Nat := (M.find? fun e => decide (e.2 = r ∧ e.1 < p)).map (·.1)
theorem rowOf_ov (p : Nat) (M : Mt) (r : Nat) : rowOf p M r = ov (lentM p M r) := by
  unfold rowOf lentM
  cases M.find? fun e => decide (e.2 = r ∧ e.1 < p) <;> rfl
theorem lentM_mem {p : Nat} {M : Mt} {r c : Nat} (h : lentM p M r = some c) : (c, r) ∈ M ∧ c < p := by
  unfold lentM at h
  cases hf : M.find? fun e => decide (e.2 = r ∧ e.1 < p) with
  | none => rw [hf] at h; cases h
  | some e =>
    rw [hf] at h
    have h1 := List.find?_some hf
    have h2 := List.mem_of_find?_eq_some hf
    simp only [decide_eq_true_eq] at h1
    simp only [Option.map_some, Option.some.injEq] at h
    obtain ⟨a, b⟩ := e
    simp only at h1 h
    subst h
    rw [← h1.1]
    exact ⟨h2, h1.2⟩
theorem lentM_iff {p : Nat} {M : Mt} (hv : ∀ c c' r, (c, r) ∈ M → (c', r) ∈ M → c = c') {r c : Nat} (hc : c < p) : lentM p M r = some c ↔ (c, r) ∈ M := by
  constructor
  · intro h; exact (lentM_mem h).1
  · intro h
    have hs : (M.find? fun e => decide (e.2 = r ∧ e.1 < p)).isSome := by
      rw [List.find?_isSome]
      exact ⟨(c, r), h, by simp [hc]⟩
    cases hl : lentM p M r with
    | none =>
      unfold lentM at hl
      cases hf : M.find? fun e => decide (e.2 = r ∧ e.1 < p) with
      | none => rw [hf] at hs; cases hs
      | some e => rw [hf] at hl; cases hl
    | some c' =>
      have := (lentM_mem hl).1
      rw [hv c' c r this h]
def gsOf (s p : Nat) (f : Nat → Nat → Nat) : List (Nat → Option Nat) := (tabM s p f).map (lentM p)
theorem tab_val (s p : Nat) (f : Nat → Nat → Nat) : (.tup (tabL s p f) : Val) = valT s (gsOf s p f) := by
  unfold tabL valT gsOf
  rw [List.map_map]
  congr 1
  apply List.map_congr_left
  intro M _
  simp only [Function.comp_apply, valD, dayL]
  congr 1
  apply List.map_congr_left
  intro r _
  exact rowOf_ov p M r
section
variable {s p : Nat} {f : Nat → Nat → Nat}
theorem tab_fit (h : VF s p f) : FT s p f (gsOf s p f) := by
  obtain ⟨d1, d2⟩ := Kuhn.days_ok (load s p f) _ (We_reg h)
  have hL := h.load_le
  refine ⟨fun g hg r c hr hc => ?_, fun g hg r r' c hr hr' hc hc' => ?_, fun r c hr hc => ?_, ?_⟩
  · obtain ⟨M, hM, rfl⟩ := List.mem_map.mp hg
    exact (lentM_mem hc).2
  · obtain ⟨M, hM, rfl⟩ := List.mem_map.mp hg
    obtain ⟨W, P⟩ := d1 M hM
    exact P.col1 (lentM_mem hc).1 (lentM_mem hc').1
  · have e := d2 r c (by omega) (by omega)
    have e1 : We s p f (load s p f) p r c = (f r c : Int) := by
      unfold We
      rw [if_pos hr, if_pos hc]
    rw [e1] at e
    have e2 : f r c = ((tabM s p f).filter fun m => decide ((c, r) ∈ m)).length := by
      have := e
      unfold tabM
      omega
    rw [e2, gsOf, List.countP_map, List.countP_eq_length_filter]
    congr 1
    apply List.filter_congr
    intro M hM
    obtain ⟨W, P⟩ := d1 M hM
    simp only [Function.comp_apply]
    rw [decide_eq_decide]
    exact lentM_iff (fun c c' r h1 h2 => P.row1 h1 h2) hc
  · simp [gsOf, tabM, Kuhn.days_len]
    omega
theorem gs_len : (gsOf s p f).length = load s p f := by simp [gsOf, tabM, Kuhn.days_len]
theorem are_ok (h : VF s p f) (k : Nat) (S : Sto) : callFn prog (k + 4) 13 [encF s p f] S = .ok (.bl true) S := by
  rw [run_fn (d := d_are_wants) rfl rfl]
  simp [d_are_wants, fits h k S]
def BadL (m : Nat) (v : Val) : Prop := v.settle = v ∧ ∀ (k : Nat) (S : Sto), callFn prog (k + 2) 1 [v, .int 0, .int ((m : Int) - 1)] S = .ok (.bl false) S
theorem sub_one (a : Nat) (S : Sto) : QE.bin S .sub (nv a) (.int 1) = some (.int ((a : Int) - 1)) := by simp [QE.bin, subV, nv]
theorem in_rng {m i : Nat} (h : i < m) (k : Nat) (S : Sto) : callFn prog (k + 2) 1 [nv i, .int 0, .int ((m : Int) - 1)] S = .ok (.bl true) S := by
  show callFn prog (k + 2) 1 [.int (i : Int), .int 0, .int ((m : Int) - 1)] S = _
  rw [fw_int]
  simp
  omega
theorem no_tab (k : Nat) (S : Sto) (w : Val) : callFn prog (k + 1) 7 [w, .non] S = .ok (.bl false) S := by
  rw [run_fn (d := d_fits_table) rfl rfl]
  simp [d_fits_table, isTy, tyName, isNon]
theorem len_tab (gs : List (Nat → Option Nat)) (S : Sto) : callBi S .len [valT s gs] = some (nv gs.length) := by simp [callBi, lenOf, asSeq, valT, nv]
theorem tu_len {p : Nat} (xs : List Val) (h : xs.length = p) (k : Nat) (S : Sto) : callFn prog (k + 1) 2 [.tup xs, nv p, nv p] S = .ok (.bl true) S := by
  show callFn prog (k + 1) 2 [.tup xs, .int (p : Int), .int (p : Int)] S = _
  rw [tu_tup]
  simp [h]
end
end K68

set_option linter.all false
set_option maxRecDepth 10000
namespace K68
open QE
open Kuhn (Mt get put ks vs Reg Perf off)
section
variable {s p : Nat} {f : Nat → Nat → Nat}
/-! ### what raises nothing -/
theorem o14 (h : VF s p f) {i : Nat} (hi : i < s) (k : Nat) (S : Sto) : callFn prog (k + 5) 14 [encF s p f, nv i] S = .ok (nv (rS p f i)) S := by
  rw [run_fn (d := d_scholar_days) rfl rfl]
  simp [d_scholar_days, need h k S, in_rng hi, len_enc, sub_one, it_enc hi, sum_rowV, rS]
theorem o15 (h : VF s p f) {i : Nat} (hi : i < p) (k : Nat) (S : Sto) : callFn prog (k + 5) 15 [encF s p f, nv i] S = .ok (nv (cS s f i)) S := by
  rw [run_fn (d := d_piece_days) rfl rfl]
  have hs1 := h.s1
  have hc : callFn prog (k + 4) 5 [encF s p f, nv i] S = .ok (.lst true ((List.range s).map fun r => nv (f r i))) S := col h.s2 hi (k + 3) S
  simp [d_piece_days, need h k S, len_rowV, it_enc0 (show 0 < s by omega), sub_one, in_rng hi, hc, sum_lst, cS]
theorem o16 (h : VF s p f) (k : Nat) (S : Sto) : callFn prog (k + 5) 16 [encF s p f] S = .ok (nv (load s p f)) S := by
  rw [run_fn (d := d_fewest_days) rfl rfl]
  simp [d_fewest_days, need h k S, gload h]
theorem o17 (h : VF s p f) (K : Nat) (hK : s + p + 1 ≤ K) (S : Sto) : callFn prog (K + 3) 17 [encF s p f] S = .ok (valT s (gsOf s p f)) S := by rw [day_table h K hK S, tab_val]
theorem f1000 (k : Nat) (S : Sto) : callFn prog (k + 2) 1 [.int 1000, .int 0, .int 1000] S = .ok (.bl true) S := by rw [fw_int]; simp
end
end K68

set_option linter.all false
set_option maxRecDepth 10000
namespace K68
open QE
open Kuhn (Mt get put ks vs Reg Perf off)
theorem index_some {x : Val} : ∀ {ys : List Val} (k : Nat), (ys.any fun y => y.eqv x) = true → ∃ n, indexOf x ys k = some n
  | [], _, h => by cases h
  | y :: ys, k, h => by
    rw [List.any_cons] at h
    cases hy : y.eqv x with
    | true => exact ⟨k, by simp [indexOf, hy]⟩
    | false =>
      rw [hy, Bool.false_or] at h
      obtain ⟨n, hn⟩ := index_some (k + 1) h
      exact ⟨n, by simp [indexOf, hy, hn]⟩
theorem hasFlat_of {x : Val} {ys : List Val} (h1 : x.flat = true) (h2 : ys.all Val.flat = true) : hasFlat x ys = some (ys.any fun y => y.eqv x) := by simp only [hasFlat, h1, h2, Bool.and_self, if_true]
theorem flatIdx_of {x : Val} {ys : List Val} {n : Nat} (h1 : x.flat = true) (h2 : ys.all Val.flat = true) (h3 : indexOf x ys 0 = some n) : flatIdx x ys = some (.int n) := by simp only [flatIdx, h1, h2, Bool.and_self, if_true, h3]
theorem zipV_map {α : Type} (e : α → Val) : ∀ xs ys : List α, zipV (xs.map e) (ys.map e) = (xs.zip ys).map fun p => .tup [e p.1, e p.2]
  | [], _ => by simp [zipV]
  | x :: xs, [] => by simp [zipV]
  | x :: xs, y :: ys => by simp [zipV, zipV_map e xs ys]
theorem zipV_two {α : Type} (e e' : α → Val) : ∀ xs : List α, zipV (xs.map e) (xs.map e') = xs.map fun a => .tup [e a, e' a]
  | [] => by simp [zipV]
  | x :: xs => by simp [zipV, zipV_two e e' xs]
theorem cut_one {α : Type} (xs : List α) : cut xs (some 1) none = xs.drop 1 := by
  unfold cut clip
  cases xs with
  | nil => simp
  | cons x xs =>
    have : min (1 : Int).toNat (x :: xs).length = 1 := by
      have h1 : (1 : Int).toNat = 1 := rfl
      rw [h1, List.length_cons]
      omega
    simp [this]
theorem cut_zero {α : Type} (xs : List α) : cut xs none (some 0) = [] := by
  unfold cut clip
  simp
theorem chk_ov (x : Option Nat) : (ov x).chk 64 = true := by cases x <;> simp [ov, nv, Val.chk]
theorem ne_ov (x y : Option Nat) (S : Sto) : QE.cmp S .ne (ov x) (ov y) = some (!(ov x).eqv (ov y)) := by
  have h1 : res S (ov x) = ov x := by cases x <;> rfl
  have h2 : res S (ov y) = ov y := by cases y <;> rfl
  simp only [QE.cmp, eqVal, h1, h2, chk_ov, Bool.and_self, if_true, nt]
section
variable {s p : Nat} {f : Nat → Nat → Nat} {gs : List (Nat → Option Nat)}
theorem o21 (h : VF s p f) (ht : FT s p f gs) {d : Nat} (hd : d < gs.length) (k : Nat) (S : Sto) : ∃ v, callFn prog (k + 5) 21 [encF s p f, valT s gs, nv d] S = .ok v S := by
  have hs1 := h.s1
  have hp2 := h.p2
  have i1 : ∀ S, item S (valT s gs) (nv d) = some (valD s gs[d]) := fun S => by
    show itemOf _ (.int (d : Int)) = _
    exact atI_nat _ (by simp [hd])
  let ys : List Val := (List.range s).map fun r => ov (gs[d] r)
  have hfl : ys.all Val.flat = true := by simp [ys, ov_flat]
  let g : Nat → Val := fun c => if (ys.any fun y => y.eqv (nv c)) then .int ((indexOf (nv c) ys 0).getD 0 : Nat) else .non
  have a1 : evalE (cxt prog (k + 4) S.length) (.comp [3] (.name 3) (.rng1 (.bi .len [(.idx (.var 0) (.lit (.int 0)))])) [] (.ite (.cmp .in_ (.var 3) (.idx (.var 1) (.var 2))) (.meth .tindex (.idx (.var 1) (.var 2)) (.var 3)) (.lit .non))) [some (encF s p f), some (valT s gs), some (nv d), none] S = .ok (.lst true ((List.range p).map g)) S :=
    ev_compc nv g (List.range p) (by
      simp only [sr_1, ev_bi, es_cons, es_nil, ev_idx, ev_var, ev_lit, List.getElem?_cons_zero, QE.R.bind_okS, it_enc0 (show 0 < s by omega), QE.R.of_some, set_rowV, len_rowV, int_nv]
      exact rng_ok S p (by omega)) (small_lim (by simp; omega)) (fun c hc => ⟨[some (encF s p f), some (valT s gs), some (nv d), some (nv c)], by simp [wipe], by
        have c1 : QE.cmp S .in_ (nv c) (valD s gs[d]) = some (ys.any fun y => y.eqv (nv c)) := by
          exact hasFlat_of (x := nv c) (ys := ys) rfl hfl
        cases ha : (ys.any fun y => y.eqv (nv c)) with
        | false =>
          rw [ha] at c1
          simp only [ev_ite, ev_cmp, ev_idx, ev_var, ev_lit, List.getElem?_cons_succ, List.getElem?_cons_zero, QE.R.bind_okS, i1, QE.R.of_some, c1, bl_ok, Bool.false_eq_true, if_false, g, ha]
        | true =>
          rw [ha] at c1
          obtain ⟨n, hn⟩ := index_some 0 ha
          have c2 : callMe S .tindex (valD s gs[d]) [nv c] = some (.int n) := by
            exact flatIdx_of (x := nv c) (ys := ys) rfl hfl hn
          have c3 : recOf S .tindex (valD s gs[d]) = some ys := rfl
          simp only [ev_ite, ev_cmp, ev_meth, ev_idx, ev_var, ev_lit, List.getElem?_cons_succ, List.getElem?_cons_zero, QE.R.bind_okS, i1, QE.R.of_some, c1, c3, set_nv, c2, bl_ok, if_true, g, ha, hn]
          rfl⟩) (fun c => by
        show (if _ then _ else _ : Val).settle = (if _ then _ else _ : Val)
        split <;> rfl)
  refine ⟨.tup ((List.range p).map g), ?_⟩
  rw [run_fn (d := d_lent_on) rfl rfl]
  have hf := fits_tab h ht (k + 1) S
  have ct : ∀ L : List Val, callBi S .tuple [.lst false L] = some (.tup L) := fun L => rfl
  show finish S.length (execSs (cxt prog (k + 4) S.length) d_lent_on.body [some (encF s p f), some (valT s gs), some (nv d), none] S) = _
  simp only [d_lent_on, xs_cons, xs_nil, x_xcall, eX_call, es_cons, es_nil, ev_var, List.getElem?_cons_succ, List.getElem?_cons_zero, QE.R.bind_okS, set_encF, set_valT, set_nv, QE.R.calm_okS, cxt_call, need h k S, x_if, ev_not, ev_call, hf, bl_ok, Bool.not_true, Bool.false_eq_true, if_false, ev_lit, ev_bin, ev_bi, len_tab, QE.R.of_some, sub_one, set_int, in_rng hd, x_ret, a1, set_lst, ct, fin_rt]
end
end K68

set_option linter.all false
set_option maxRecDepth 10000
namespace K68
open QE
/-! ### values near tables -/
def eOk (p : Nat) : Val → Bool
  | .non => true
  | .int i => decide (0 ≤ i ∧ i < (p : Int))
  | _ => false
def toO : Val → Option Nat
  | .int i => some i.toNat
  | _ => none
/-- a day's entries, one behind the other -/
def vrun (p : Nat) : List Nat → List Val → Bool
  | _, [] => true
  | l, .non :: xs => vrun p l xs
  | l, .int i :: xs => decide (0 ≤ i ∧ i < (p : Int)) && (!decide (i.toNat ∈ l) && vrun p (l ++ [i.toNat]) xs)
  | _, _ :: _ => false
theorem vrun_eq (p : Nat) : ∀ (xs : List Val) (l : List Nat), l.Nodup → vrun p l xs = (xs.all (eOk p) && decide ((l ++ xs.filterMap toO).Nodup))
  | [], l, h => by simp [vrun, h]
  | .non :: xs, l, h => by
    rw [vrun, vrun_eq p xs l h]
    have e1 : eOk p .non = true := rfl
    have e2 : (Val.non :: xs).filterMap toO = xs.filterMap toO := by rw [List.filterMap_cons]; rfl
    rw [List.all_cons, e1, e2, Bool.true_and]
  | .int i :: xs, l, h => by
    rw [vrun]
    by_cases hi : 0 ≤ i ∧ i < (p : Int)
    · by_cases hm : i.toNat ∈ l
      · have : ¬ (l ++ (i.toNat :: xs.filterMap toO)).Nodup := fun z => (List.nodup_append.mp z).2.2 _ hm _ (by simp) rfl
        simp [hi, hm, eOk, toO, this]
      · have hn : (l ++ [i.toNat]).Nodup := by
          rw [List.nodup_append]
          exact ⟨h, by simp, fun a ha b hb z => by simp at hb; subst hb; subst z; exact hm ha⟩
        rw [vrun_eq p xs _ hn]
        simp [hi, hm, eOk, toO, List.append_assoc]
    · simp [hi, eOk]
  | .bl _ :: xs, l, h => by simp [vrun, eOk]
  | .str _ :: xs, l, h => by simp [vrun, eOk]
  | .tup _ :: xs, l, h => by simp [vrun, eOk]
  | .lst _ _ :: xs, l, h => by simp [vrun, eOk]
  | .dic _ _ _ :: xs, l, h => by simp [vrun, eOk]
  | .ref _ :: xs, l, h => by simp [vrun, eOk]
  | .kls _ :: xs, l, h => by simp [vrun, eOk]
  | .fn _ _ :: xs, l, h => by simp [vrun, eOk]
  | .exn _ _ :: xs, l, h => by simp [vrun, eOk]
  | .ptup _ :: xs, l, h => by simp [vrun, eOk]
theorem ov_toO {p : Nat} {x : Val} (h : eOk p x = true) : ov (toO x) = x := by
  cases x <;> simp only [eOk] at h <;> try (cases h; done)
  · rfl
  · simp only [decide_eq_true_eq] at h
    simp only [toO, ov, nv]
    congr 1
    omega
def its : Val → List Val
  | .tup xs => xs
  | .ptup xs => xs
  | _ => []
def dOk (s : Nat) : Val → Bool
  | .tup xs => decide (xs.length = s)
  | .ptup xs => decide (xs.length = s)
  | _ => false
def gd (xs : List Val) (r : Nat) : Option Nat := (xs[r]?).bind toO
def cntB (s p : Nat) (f : Nat → Nat → Nat) (ds : List Val) : Bool := (List.range s).all fun r => (List.range p).all fun c => decide ((ds.countP fun d => decide (gd (its d) r = some c)) = f r c)
def tabB (s p : Nat) (f : Nat → Nat → Nat) : Val → Bool
  | .tup ds => ds.all (dOk s) && (ds.all (fun d => vrun p [] (its d)) && cntB s p f ds)
  | _ => false
/-- a day, or what stands for one -/
def DV (d : Val) : Prop := d.settle = d ∧ (noT d = true ∨ ∃ xs, (d = .tup xs ∨ d = .ptup xs) ∧ xs.all Val.flat = true)
/-- a value near tables -/
def TV (v : Val) : Prop := v.settle = v ∧ (noT v = true ∨ ∃ ds, v = .tup ds ∧ ds.length ≤ 1000 ∧ ∀ d ∈ ds, DV d)
theorem dOk_walk {s : Nat} {d : Val} (h : dOk s d = true) : walkOf d = some (its d) ∧ seqOf d = some (its d) ∧ (its d).length = s ∧ d.settle = d := by
  cases d <;> simp only [dOk] at h <;> try (cases h; done)
  · exact ⟨rfl, rfl, of_decide_eq_true h, rfl⟩
  · exact ⟨rfl, rfl, of_decide_eq_true h, rfl⟩
theorem dOk_item {s r : Nat} {d : Val} (h : dOk s d = true) (hr : r < s) (S : Sto) : ∃ x, (its d)[r]? = some x ∧ item S d (nv r) = some x := by
  have hl := (dOk_walk h).2.2.1
  refine ⟨(its d)[r]'(by omega), List.getElem?_eq_getElem (by omega), ?_⟩
  cases d <;> simp only [dOk] at h <;> try (cases h; done)
  · exact atI_nat _ (List.getElem?_eq_getElem _)
  · exact atI_nat _ (List.getElem?_eq_getElem _)
theorem dv_flat {s : Nat} {d : Val} (hd : DV d) (h : dOk s d = true) : (its d).all Val.flat = true := by
  obtain ⟨_, h1 | ⟨xs, h1 | h1, h2⟩⟩ := hd
  · cases d <;> simp only [noT, dOk] at h h1 <;> first | (cases h; done) | (cases h1; done)
  · rw [h1]; exact h2
  · rw [h1]; exact h2
theorem dv_tuple {d : Val} (hd : DV d) (s k : Nat) (S : Sto) : callFn prog (k + 1) 2 [d, nv s, nv s] S = .ok (.bl (dOk s d)) S := by
  have e : ∀ n : Nat, (decide ((s : Int) ≤ (n : Int)) && decide ((n : Int) ≤ (s : Int))) = decide (n = s) := fun n => by
    by_cases h : n = s
    · subst h; simp
    · rw [decide_eq_false h]
      by_cases h1 : (s : Int) ≤ (n : Int)
      · have : ¬ ((n : Int) ≤ (s : Int)) := by omega
        simp [this]
      · simp [h1]
  obtain ⟨_, h1 | ⟨xs, h1 | h1, h2⟩⟩ := hd
  · rw [tu_not k d _ _ S h1]
    cases d <;> simp only [noT] at h1 <;> first | (cases h1; done) | rfl
  · subst h1
    show callFn prog (k + 1) 2 [.tup xs, .int (s : Int), .int (s : Int)] S = _
    rw [tu_tup, e]
    rfl
  · subst h1
    show callFn prog (k + 1) 2 [.ptup xs, .int (s : Int), .int (s : Int)] S = _
    rw [tu_ptup, e]
    rfl
theorem all_one : ∀ L : List Nat, (L.all fun c => decide (L.count c = 1)) = decide L.Nodup := fun L => by
  by_cases h : L.Nodup
  · rw [decide_eq_true h, List.all_eq_true]
    intro c hc
    rw [decide_eq_true_eq]
    exact count_one h hc
  · rw [decide_eq_false h]
    cases ha : (L.all fun c => decide (L.count c = 1)) with
    | false => rfl
    | true =>
      exfalso
      apply h
      rw [List.all_eq_true] at ha
      rw [List.nodup_iff_count]
      intro c
      by_cases hc : c ∈ L
      · have := ha c hc
        rw [decide_eq_true_eq] at this
        omega
      · rw [List.count_eq_zero_of_not_mem hc]
        omega
section
variable {s p : Nat} {f : Nat → Nat → Nat}
def FE (s p : Nat) (f : Nat → Nat → Nat) (v : Val) (x2 x3 x4 x5 x6 x7 : Option Val) : Env := [some (encF s p f), some v, x2, x3, x4, x5, x6, x7]
theorem entry (hs : 0 < s) {x : Val} (hx : x.flat = true) (k b : Nat) (S : Sto) (v : Val) (x2 x3 x4 x5 x7 : Option Val) :
    evalE (cxt prog (k + 2) b) (.or [(.cmp .is_ (.var 6) (.lit .non)), (.call 1 [(.var 6), (.lit (.int 0)), (.bin .sub (.bi .len [(.idx (.var 0) (.lit (.int 0)))]) (.lit (.int 1)))])]) (FE s p f v x2 x3 x4 x5 (some x) x7) S = .ok (.bl (eOk p x)) S := by
  have hc : ∀ b, callFn prog (k + 2) 1 [x, .int 0, .int ((p : Int) - 1)] S = .ok (.bl b) S → x.settle = x → QE.cmp S .is_ x .non = some false → b = eOk p x → evalE (cxt prog (k + 2) b.toNat) (.lit .non) [] S = .ok .non S := fun _ _ _ _ _ => by simp
  clear hc
  have main : ∀ b' : Bool, callFn prog (k + 2) 1 [x, .int 0, .int ((p : Int) - 1)] S = .ok (.bl b') S → x.settle = x → QE.cmp S .is_ x .non = some false → b' = eOk p x →
      evalE (cxt prog (k + 2) b) (.or [(.cmp .is_ (.var 6) (.lit .non)), (.call 1 [(.var 6), (.lit (.int 0)), (.bin .sub (.bi .len [(.idx (.var 0) (.lit (.int 0)))]) (.lit (.int 1)))])]) (FE s p f v x2 x3 x4 x5 (some x) x7) S = .ok (.bl (eOk p x)) S := fun b' h1 h2 h3 h4 => by
    simp only [FE, ev_or, eor_cons, eor_nil, ev_cmp, ev_var, ev_lit, List.getElem?_cons_succ, List.getElem?_cons_zero, QE.R.bind_okS, h3, QE.R.of_some, bl_ok, Bool.false_eq_true, if_false, ev_call, es_cons, es_nil, ev_bin, ev_bi, ev_idx, it_enc0 hs, set_rowV, len_rowV, sub_one, h2, set_int, cxt_call, h1, h4]
    cases eOk p x <;> rfl
  cases x <;> simp only [Val.flat] at hx <;> try (cases hx; done)
  · simp only [FE, ev_or, eor_cons, eor_nil, ev_cmp, ev_var, ev_lit, List.getElem?_cons_succ, List.getElem?_cons_zero, QE.R.bind_okS, show QE.cmp S .is_ .non .non = some true from rfl, QE.R.of_some, bl_ok, if_true]
    rfl
  · rename_i q
    exact main false (fw_bl k q _ _ S) rfl rfl rfl
  · rename_i i
    refine main _ (fw_int k i 0 _ S) rfl rfl ?_
    unfold eOk
    by_cases h1 : 0 ≤ i
    · by_cases h2 : i < (p : Int)
      · have : i ≤ (p : Int) - 1 := by omega
        simp [h1, h2, this]
      · have : ¬ (i ≤ (p : Int) - 1) := by omega
        simp [h2, this]
    · simp [h1]
  · rename_i q
    exact main false (fw_not k (.str q) _ _ S rfl) rfl rfl rfl
theorem isn_flat {x : Val} (hx : x.flat = true) (S : Sto) : QE.cmp S .isn x .non = some (match x with | .non => false | _ => true) := by
  cases x <;> simp only [Val.flat] at hx <;> first | (cases hx; done) | rfl
theorem lent_of {p : Nat} : ∀ (xs : List Val), xs.all (eOk p) = true → ((xs.filter fun x => match x with | .non => false | _ => true).map fun x => x.settle) = (xs.filterMap toO).map nv
  | [], _ => rfl
  | x :: xs, h => by
    rw [List.all_cons, Bool.and_eq_true] at h
    have ih := lent_of xs h.2
    have h1 := ov_toO h.1
    have h2 := h.1
    cases x <;> simp only [eOk] at h2 <;> try (cases h2; done)
    · simp only [List.filter_cons, Bool.false_eq_true, if_false, List.filterMap_cons, toO, ih]
    · simp only [List.filter_cons, if_true, List.map_cons, List.filterMap_cons, toO, ih]
      rw [← h1]
      rfl
theorem t1_gen (h : VF s p f) {d : Val} (hd : DV d) (hk : dOk s d = true) (k b : Nat) (S : Sto) (v : Val) (x3 x4 x5 x6 x7 : Option Val) :
    (vrun p [] (its d) = true → ∃ y3, execSs (cxt prog (k + 2) b) t1Body (FE s p f v (some d) x3 x4 x5 x6 x7) S = .ok (.nx, FE s p f v (some d) y3 x4 x5 x6 x7) S) ∧
    (vrun p [] (its d) = false → ∃ e', execSs (cxt prog (k + 2) b) t1Body (FE s p f v (some d) x3 x4 x5 x6 x7) S = .ok (.rt (.bl false), e') S) := by
  have hs1 := h.s1
  have hs2 := h.s2
  obtain ⟨w1, w2, hl, w4⟩ := dOk_walk hk
  have hfl := dv_flat hd hk
  have hlim : (its d).length ≤ lim := small_lim (by omega)
  have hw : ∀ env : Env, env[2]? = some (some d) → evalSrc (cxt prog (k + 2) b) (.it (.var 2)) env S = .ok (its d) S := fun env he => by
    simp only [sr_it, ev_var, he, QE.R.bind_okS, w1, QE.R.of_some]
  have hflx : ∀ x ∈ its d, x.flat = true := fun x hx => List.all_eq_true.mp hfl x hx
  have hst : ∀ x ∈ its d, x.settle = x := fun x hx => by
    have := hflx x hx
    cases x <;> simp only [Val.flat] at this <;> first | (cases this; done) | rfl
  rw [vrun_eq p _ [] (by simp), List.nil_append]
  have a1 : evalE (cxt prog (k + 2) b) (.bi .all [(.comp [6] (.name 6) (.it (.var 2)) [] (.or [(.cmp .is_ (.var 6) (.lit .non)), (.call 1 [(.var 6), (.lit (.int 0)), (.bin .sub (.bi .len [(.idx (.var 0) (.lit (.int 0)))]) (.lit (.int 1)))])]))]) (FE s p f v (some d) x3 x4 x5 x6 x7) S = .ok (.bl ((its d).all (eOk p))) S :=
    ev_allc id (eOk p) (its d) (by rw [List.map_id]; exact hw _ (by simp [FE])) hlim fun x hx => ⟨FE s p f v (some d) x3 x4 x5 (some x) x7, by simp [wipe, FE, hst x hx], entry (by omega) (hflx x hx) k b S v _ _ _ _ _⟩
  cases ha : (its d).all (eOk p) with
  | false =>
    refine ⟨fun z => by simp at z, fun _ => ⟨FE s p f v (some d) x3 x4 x5 x6 x7, ?_⟩⟩
    rw [ha] at a1
    unfold t1Body
    rw [xs_cons, x_if, ev_not, a1]
    simp only [QE.R.bind_okS, bl_ok, Bool.not_false, QE.R.calm_okS, if_true, xs_cons, x_ret, ev_lit]
  | true =>
    rw [ha] at a1
    have a2 : evalE (cxt prog (k + 2) b) (.comp [6] (.name 6) (.it (.var 2)) [(.cmp .isn (.var 6) (.lit .non))] (.var 6)) (FE s p f v (some d) x3 x4 x5 x6 x7) S = .ok (.lst true (((its d).filterMap toO).map nv)) S := by
      have hr := comp_run (tg := .name 6) (test := evalAnd (cxt prog (k + 2) b) [(.cmp .isn (.var 6) (.lit .non))]) (elt := evalE (cxt prog (k + 2) b) (.var 6)) (env := wipe (FE s p f v (some d) x3 x4 x5 x6 x7) [6]) (S := S) id (fun x => match x with | .non => false | _ => true) id (its d) fun x hx =>
        ⟨FE s p f v (some d) x3 x4 x5 (some x) x7, by simp [wipe, FE, hst x hx], by
          have := isn_flat (hflx x hx) S
          simp only [FE, ea_cons, ea_nil, ev_cmp, ev_var, ev_lit, List.getElem?_cons_succ, List.getElem?_cons_zero, QE.R.bind_okS, this, QE.R.of_some, bl_ok]
          cases x <;> rfl, fun _ => by simp [FE]⟩
      simp only [id] at hr
      rw [lent_of _ ha, List.map_id] at hr
      refine ev_comp (hw _ (by simp [FE])) hr ?_
      have := List.length_filterMap_le toO (its d)
      rw [List.length_map]
      exact Nat.le_trans this hlim
    have hl2 : ((its d).filterMap toO).length ≤ lim := Nat.le_trans (List.length_filterMap_le toO (its d)) hlim
    have a3 : evalE (cxt prog (k + 2) b) (.bi .all [(.comp [6] (.name 6) (.it (.var 3)) [] (.cmp .eq (.meth .count (.var 3) (.var 6)) (.lit (.int 1))))]) (FE s p f v (some d) (some (.lst false (((its d).filterMap toO).map nv))) x4 x5 x6 x7) S = .ok (.bl (decide ((its d).filterMap toO).Nodup)) S := by
      rw [ev_allc nv (fun c => decide (((its d).filterMap toO).count c = 1)) ((its d).filterMap toO) (by simp [FE, walkOf]) hl2 fun c hc => ⟨FE s p f v (some d) (some (.lst false (((its d).filterMap toO).map nv))) x4 x5 (some (nv c)) x7, by simp [wipe, FE], by
        have h1 : (Val.int 1) = nv 1 := rfl
        simp only [FE, ev_cmp, ev_meth, ev_var, ev_lit, List.getElem?_cons_succ, List.getElem?_cons_zero, QE.R.bind_okS, recOf, asList, QE.R.of_some, set_nv, count_nv, h1, eq_nv]⟩]
      rw [all_one]
    have st1 : ∀ r, execSs (cxt prog (k + 2) b) [(.if_ (.not (.bi .all [(.comp [6] (.name 6) (.it (.var 3)) [] (.cmp .eq (.meth .count (.var 3) (.var 6)) (.lit (.int 1))))])) [(.ret (.lit (.bl false)))] [])] (FE s p f v (some d) (some (.lst false (((its d).filterMap toO).map nv))) x4 x5 x6 x7) S = r →
        execSs (cxt prog (k + 2) b) t1Body (FE s p f v (some d) x3 x4 x5 x6 x7) S = r := fun r hr => by
      unfold t1Body
      refine ss_step (env' := FE s p f v (some d) x3 x4 x5 x6 x7) (S' := S) (by
        simp only [x_if, ev_not, a1, QE.R.bind_okS, bl_ok, Bool.not_true, QE.R.calm_okS, Bool.false_eq_true, if_false, xs_nil]) ?_
      refine ss_step (env' := FE s p f v (some d) (some (.lst false (((its d).filterMap toO).map nv))) x4 x5 x6 x7) (S' := S) (by
        simp only [x_asg, a2, QE.R.calm_okS, QE.R.bind_okS, bind_name, set_lst, QE.R.of_some]
        rfl) hr
    rw [Bool.true_and]
    cases hn : decide ((its d).filterMap toO).Nodup with
    | true =>
      rw [hn] at a3
      exact ⟨fun _ => ⟨some (.lst false (((its d).filterMap toO).map nv)), st1 _ (by simp only [xs_cons, xs_nil, x_if, ev_not, a3, QE.R.bind_okS, bl_ok, Bool.not_true, QE.R.calm_okS, Bool.false_eq_true, if_false])⟩, fun z => Bool.noConfusion z⟩
    | false =>
      rw [hn] at a3
      exact ⟨fun z => Bool.noConfusion z, fun _ => ⟨FE s p f v (some d) (some (.lst false (((its d).filterMap toO).map nv))) x4 x5 x6 x7, st1 _ (by simp only [xs_cons, xs_nil, x_if, ev_not, a3, QE.R.bind_okS, bl_ok, Bool.not_false, QE.R.calm_okS, if_true, x_ret, ev_lit])⟩⟩
end
end K68

set_option linter.all false
set_option maxRecDepth 10000
namespace K68
open QE
section
variable {s p : Nat} {f : Nat → Nat → Nat}
theorem t1_loop (h : VF s p f) (k b : Nat) (S : Sto) (v : Val) : ∀ (ds : List Val) (x2 x3 : Option Val), (∀ d ∈ ds, DV d ∧ dOk s d = true) →
    ((ds.all fun d => vrun p [] (its d)) = true → ∃ y2 y3, forLoop (.name 2) (execSs (cxt prog (k + 2) b) t1Body) ds (FE s p f v x2 x3 none none none none) S = .ok (.nx, FE s p f v y2 y3 none none none none) S) ∧
    ((ds.all fun d => vrun p [] (its d)) = false → ∃ e', forLoop (.name 2) (execSs (cxt prog (k + 2) b) t1Body) ds (FE s p f v x2 x3 none none none none) S = .ok (.rt (.bl false), e') S)
  | [], x2, x3, _ => ⟨fun _ => ⟨x2, x3, rfl⟩, fun z => by simp at z⟩
  | d :: ds, x2, x3, hd => by
    obtain ⟨hd1, hd2⟩ := hd d (by simp)
    obtain ⟨t1, t2⟩ := t1_gen h hd1 hd2 k b S v x3 none none none none
    have hset : d.settle = d := hd1.1
    have e0 : (FE s p f v x2 x3 none none none none).set 2 (some d) = FE s p f v (some d) x3 none none none none := rfl
    rw [List.all_cons]
    cases hv : vrun p [] (its d) with
    | false =>
      obtain ⟨e', he⟩ := t2 hv
      refine ⟨fun z => by simp at z, fun _ => ⟨e', ?_⟩⟩
      simp only [forLoop, bind_name, hset, e0, he, QE.R.bind_okS]
    | true =>
      obtain ⟨y3, he⟩ := t1 hv
      obtain ⟨i1, i2⟩ := t1_loop h k b S v ds (some d) y3 fun x hx => hd x (List.mem_cons_of_mem _ hx)
      rw [Bool.true_and]
      refine ⟨fun z => ?_, fun z => ?_⟩
      · obtain ⟨y2, y3', hl⟩ := i1 z
        refine ⟨y2, y3', ?_⟩
        simp only [forLoop, bind_name, hset, e0, he, QE.R.bind_okS, hl]
      · obtain ⟨e', hl⟩ := i2 z
        refine ⟨e', ?_⟩
        simp only [forLoop, bind_name, hset, e0, he, QE.R.bind_okS, hl]
theorem vrun_all {p : Nat} {xs : List Val} (h : vrun p [] xs = true) : xs.all (eOk p) = true := by
  rw [vrun_eq p xs [] (by simp)] at h
  simp only [Bool.and_eq_true] at h
  exact h.1
theorem gd_item {d : Val} (hk : dOk s d = true) (hv : vrun p [] (its d) = true) {r : Nat} (hr : r < s) (S : Sto) : item S d (nv r) = some (ov (gd (its d) r)) := by
  obtain ⟨x, h1, h2⟩ := dOk_item hk hr S
  rw [h2]
  have hx := List.all_eq_true.mp (vrun_all hv) x (List.mem_of_getElem? h1)
  simp only [gd, h1, Option.bind_some]
  rw [ov_toO hx]
theorem t2_gen (h : VF s p f) {ds : List Val} (hd : ∀ d ∈ ds, DV d ∧ dOk s d = true ∧ vrun p [] (its d) = true) (hl : ds.length ≤ 1000) {r : Nat} (hr : r < s) (c : Ctx) (S : Sto) (x2 x3 x5 x6 x7 : Option Val) :
    (((List.range p).all fun q => decide ((ds.countP fun d => decide (gd (its d) r = some q)) = f r q)) = true → execSs c t2Body (FE s p f (.tup ds) x2 x3 (some (nv r)) x5 x6 x7) S = .ok (.nx, FE s p f (.tup ds) x2 x3 (some (nv r)) (some (.lst false (ds.map fun d => ov (gd (its d) r)))) x6 x7) S) ∧
    (((List.range p).all fun q => decide ((ds.countP fun d => decide (gd (its d) r = some q)) = f r q)) = false → ∃ e', execSs c t2Body (FE s p f (.tup ds) x2 x3 (some (nv r)) x5 x6 x7) S = .ok (.rt (.bl false), e') S) := by
  have hs1 := h.s1
  have hs2 := h.s2
  have hp1 := h.p1
  have hp2 := h.p2
  have a1 : evalE c (.comp [2] (.name 2) (.it (.var 1)) [] (.idx (.var 2) (.var 4))) (FE s p f (.tup ds) x2 x3 (some (nv r)) x5 x6 x7) S = .ok (.lst true (ds.map fun d => ov (gd (its d) r))) S :=
    ev_compc id (fun d => ov (gd (its d) r)) ds (by simp [FE, walkOf]) (small_lim (by omega)) (fun d hd' => ⟨FE s p f (.tup ds) (some d) x3 (some (nv r)) x5 x6 x7, by simp [wipe, FE, (hd d hd').1.1], by
      have := gd_item (hd d hd').2.1 (hd d hd').2.2 hr S
      simp only [FE, ev_idx, ev_var, List.getElem?_cons_succ, List.getElem?_cons_zero, QE.R.bind_okS, this, QE.R.of_some]⟩) (fun _ => set_ov _)
  have a2 : evalE c (.bi .all [(.comp [7] (.name 7) (.rng1 (.bi .len [(.idx (.var 0) (.lit (.int 0)))])) [] (.cmp .eq (.meth .count (.var 5) (.var 7)) (.idx (.idx (.var 0) (.var 4)) (.var 7))))]) (FE s p f (.tup ds) x2 x3 (some (nv r)) (some (.lst false (ds.map fun d => ov (gd (its d) r)))) x6 x7) S = .ok (.bl ((List.range p).all fun q => decide ((ds.countP fun d => decide (gd (its d) r = some q)) = f r q))) S :=
    ev_allc nv (fun q => decide ((ds.countP fun d => decide (gd (its d) r = some q)) = f r q)) (List.range p) (by
      simp only [FE, sr_1, ev_bi, es_cons, es_nil, ev_idx, ev_var, ev_lit, List.getElem?_cons_zero, QE.R.bind_okS, it_enc0 (show 0 < s by omega), QE.R.of_some, set_rowV, len_rowV, int_nv]
      exact rng_ok S p (by omega)) (small_lim (by simp; omega)) fun q hq => ⟨FE s p f (.tup ds) x2 x3 (some (nv r)) (some (.lst false (ds.map fun d => ov (gd (its d) r)))) x6 (some (nv q)), by simp [wipe, FE], by
      have hqp := List.mem_range.mp hq
      simp only [FE, ev_cmp, ev_meth, ev_var, ev_idx, List.getElem?_cons_succ, List.getElem?_cons_zero, QE.R.bind_okS, recOf, asList, QE.R.of_some, set_nv, count_ov, it_enc hr, it_row' hqp, eq_nv]⟩
  have st1 : ∀ r', execSs c [(.if_ (.not (.bi .all [(.comp [7] (.name 7) (.rng1 (.bi .len [(.idx (.var 0) (.lit (.int 0)))])) [] (.cmp .eq (.meth .count (.var 5) (.var 7)) (.idx (.idx (.var 0) (.var 4)) (.var 7))))])) [(.ret (.lit (.bl false)))] [])] (FE s p f (.tup ds) x2 x3 (some (nv r)) (some (.lst false (ds.map fun d => ov (gd (its d) r)))) x6 x7) S = r' →
      execSs c t2Body (FE s p f (.tup ds) x2 x3 (some (nv r)) x5 x6 x7) S = r' := fun r' hr' =>
    ss_step (env' := FE s p f (.tup ds) x2 x3 (some (nv r)) (some (.lst false (ds.map fun d => ov (gd (its d) r)))) x6 x7) (S' := S) (by
      simp only [x_asg, a1, QE.R.calm_okS, QE.R.bind_okS, bind_name, set_lst, QE.R.of_some]
      rfl) hr'
  refine ⟨fun z => st1 _ ?_, fun z => ⟨_, st1 (.ok (.rt (.bl false), FE s p f (.tup ds) x2 x3 (some (nv r)) (some (.lst false (ds.map fun d => ov (gd (its d) r)))) x6 x7) S) ?_⟩⟩
  · rw [z] at a2
    simp only [xs_cons, xs_nil, x_if, ev_not, a2, QE.R.bind_okS, bl_ok, Bool.not_true, QE.R.calm_okS, Bool.false_eq_true, if_false]
  · rw [z] at a2
    simp only [xs_cons, xs_nil, x_if, ev_not, a2, QE.R.bind_okS, bl_ok, Bool.not_false, QE.R.calm_okS, if_true, x_ret, ev_lit]
theorem t2_loop (h : VF s p f) {ds : List Val} (hd : ∀ d ∈ ds, DV d ∧ dOk s d = true ∧ vrun p [] (its d) = true) (hl : ds.length ≤ 1000) (c : Ctx) (S : Sto) (x2 x3 : Option Val) : ∀ (rs : List Nat) (x4 x5 : Option Val), (∀ r ∈ rs, r < s) →
    ((rs.all fun r => (List.range p).all fun q => decide ((ds.countP fun d => decide (gd (its d) r = some q)) = f r q)) = true → ∃ y4 y5, forLoop (.name 4) (execSs c t2Body) (rs.map nv) (FE s p f (.tup ds) x2 x3 x4 x5 none none) S = .ok (.nx, FE s p f (.tup ds) x2 x3 y4 y5 none none) S) ∧
    ((rs.all fun r => (List.range p).all fun q => decide ((ds.countP fun d => decide (gd (its d) r = some q)) = f r q)) = false → ∃ e', forLoop (.name 4) (execSs c t2Body) (rs.map nv) (FE s p f (.tup ds) x2 x3 x4 x5 none none) S = .ok (.rt (.bl false), e') S)
  | [], x4, x5, _ => ⟨fun _ => ⟨x4, x5, rfl⟩, fun z => by simp at z⟩
  | r :: rs, x4, x5, hr => by
    obtain ⟨t1, t2⟩ := t2_gen h hd hl (hr r (by simp)) c S x2 x3 x5 none none
    have e0 : (FE s p f (.tup ds) x2 x3 x4 x5 none none).set 4 (some (nv r)) = FE s p f (.tup ds) x2 x3 (some (nv r)) x5 none none := rfl
    rw [List.all_cons]
    cases hv : ((List.range p).all fun q => decide ((ds.countP fun d => decide (gd (its d) r = some q)) = f r q)) with
    | false =>
      obtain ⟨e', he⟩ := t2 hv
      refine ⟨fun z => by simp at z, fun _ => ⟨e', ?_⟩⟩
      simp only [List.map_cons, forLoop, bind_name, set_nv, e0, he, QE.R.bind_okS]
    | true =>
      have he := t1 hv
      obtain ⟨i1, i2⟩ := t2_loop h hd hl c S x2 x3 rs (some (nv r)) (some (.lst false (ds.map fun d => ov (gd (its d) r)))) fun x hx => hr x (List.mem_cons_of_mem _ hx)
      rw [Bool.true_and]
      refine ⟨fun z => ?_, fun z => ?_⟩
      · obtain ⟨y4, y5, hl'⟩ := i1 z
        refine ⟨y4, y5, ?_⟩
        simp only [List.map_cons, forLoop, bind_name, set_nv, e0, he, QE.R.bind_okS, hl']
      · obtain ⟨e', hl'⟩ := i2 z
        refine ⟨e', ?_⟩
        simp only [List.map_cons, forLoop, bind_name, set_nv, e0, he, QE.R.bind_okS, hl']
theorem fits_gen (h : VF s p f) {v : Val} (hv : TV v) (k : Nat) (S : Sto) : callFn prog (k + 3) 7 [encF s p f, v] S = .ok (.bl (tabB s p f v)) S := by
  have hs1 := h.s1
  have hs2 := h.s2
  rw [run_fn (d := d_fits_table) rfl rfl]
  obtain ⟨hset, h1 | ⟨ds, rfl, hl, hds⟩⟩ := hv
  · have e1 : isTy S .tuple v = some false := by cases v <;> simp only [noT] at h1 <;> first | (cases h1; done) | rfl
    have e2 : tabB s p f v = false := by cases v <;> simp only [noT] at h1 <;> first | (cases h1; done) | rfl
    simp [d_fits_table, e1, e2, hset]
  have a0 : evalE (cxt prog (k + 2) S.length) (.isi .tuple (.var 1)) (FE s p f (.tup ds) none none none none none none) S = .ok (.bl true) S := by simp [FE, isTy, tyName]
  have a1 : evalE (cxt prog (k + 2) S.length) (.bi .all [(.comp [2] (.name 2) (.it (.var 1)) [] (.call 2 [(.var 2), (.bi .len [(.var 0)]), (.bi .len [(.var 0)])]))]) (FE s p f (.tup ds) none none none none none none) S = .ok (.bl (ds.all (dOk s))) S :=
    ev_allc id (dOk s) ds (by simp [FE, walkOf]) (small_lim (by omega)) fun d hd => ⟨FE s p f (.tup ds) (some d) none none none none none, by simp [wipe, FE, (hds d hd).1], by
      have := dv_tuple (hds d hd) s (k + 1) S
      simp only [FE, ev_call, es_cons, es_nil, ev_var, ev_bi, List.getElem?_cons_succ, List.getElem?_cons_zero, QE.R.bind_okS, set_encF, len_enc, QE.R.of_some, (hds d hd).1, set_nv, cxt_call]
      exact this⟩
  show finish S.length (execSs (cxt prog (k + 2) S.length) d_fits_table.body (FE s p f (.tup ds) none none none none none none) S) = _
  have hfin : ∀ (b : Bool) (e : Env), finish S.length (.ok (.rt (.bl b), e) S) = .ok (.bl b) S := fun b e => fin_rt S (.bl b) e
  rw [show tabB s p f (.tup ds) = (ds.all (dOk s) && ((ds.all fun d => vrun p [] (its d)) && cntB s p f ds)) from rfl]
  cases hok : ds.all (dOk s) with
  | false =>
    rw [hok] at a1
    refine Eq.trans (congrArg (finish S.length) ?_) (hfin false (FE s p f (.tup ds) none none none none none none))
    simp only [d_fits_table]
    rw [xs_cons, x_if, ev_or, eor_cons, ev_not, a0]
    simp only [QE.R.bind_okS, bl_ok, Bool.not_true, Bool.false_eq_true, if_false]
    rw [eor_cons, ev_not, a1]
    simp only [QE.R.bind_okS, bl_ok, Bool.not_false, if_true, QE.R.calm_okS, xs_cons, x_ret, ev_lit]
  | true =>
    rw [hok] at a1
    have hd2 : ∀ d ∈ ds, DV d ∧ dOk s d = true := fun d hd => ⟨hds d hd, List.all_eq_true.mp hok d hd⟩
    obtain ⟨t1, t2⟩ := t1_loop h k S.length S (.tup ds) ds none none hd2
    have st0 : ∀ r, execSs (cxt prog (k + 2) S.length) [(.for_ (.name 2) (.it (.var 1)) t1Body), (.for_ (.name 4) (.rng1 (.bi .len [(.var 0)])) t2Body), (.ret (.lit (.bl true)))] (FE s p f (.tup ds) none none none none none none) S = r →
        execSs (cxt prog (k + 2) S.length) d_fits_table.body (FE s p f (.tup ds) none none none none none none) S = r := fun r hr =>
      ss_step (env' := FE s p f (.tup ds) none none none none none none) (S' := S) (by
        simp only [x_if, ev_or, eor_cons, eor_nil, ev_not, a0, a1, QE.R.bind_okS, bl_ok, Bool.not_true, QE.R.calm_okS, Bool.false_eq_true, if_false, xs_nil]) hr
    have hw : evalSrc (cxt prog (k + 2) S.length) (.it (.var 1)) (FE s p f (.tup ds) none none none none none none) S = .ok ds S := by simp [FE, walkOf]
    rw [Bool.true_and]
    cases hvr : ds.all fun d => vrun p [] (its d) with
    | false =>
      obtain ⟨e', he⟩ := t2 hvr
      refine Eq.trans (congrArg (finish S.length) (st0 _ ?_)) (hfin false e')
      rw [xs_cons, x_for hw he]
      simp only [QE.R.bind_okS]
    | true =>
      obtain ⟨y2, y3, he⟩ := t1 hvr
      have hd3 : ∀ d ∈ ds, DV d ∧ dOk s d = true ∧ vrun p [] (its d) = true := fun d hd => ⟨hds d hd, List.all_eq_true.mp hok d hd, List.all_eq_true.mp hvr d hd⟩
      obtain ⟨u1, u2⟩ := t2_loop h hd3 hl (cxt prog (k + 2) S.length) S y2 y3 (List.range s) none none fun r hr => List.mem_range.mp hr
      have hr2 : evalSrc (cxt prog (k + 2) S.length) (.rng1 (.bi .len [(.var 0)])) (FE s p f (.tup ds) y2 y3 none none none none) S = .ok ((List.range s).map nv) S := by
        simp only [FE, sr_1, ev_bi, es_cons, es_nil, ev_var, List.getElem?_cons_zero, QE.R.bind_okS, set_encF, len_enc, QE.R.of_some, int_nv]
        exact rng_ok _ s (by omega)
      rw [Bool.true_and]
      cases hc : cntB s p f ds with
      | false =>
        obtain ⟨e', he2⟩ := u2 hc
        refine Eq.trans (congrArg (finish S.length) (st0 _ (ss_step (x_for hw he) ?_))) (hfin false e')
        rw [xs_cons, x_for hr2 he2]
        simp only [QE.R.bind_okS]
      | true =>
        obtain ⟨y4, y5, he2⟩ := u1 hc
        refine Eq.trans (congrArg (finish S.length) (st0 _ (ss_step (x_for hw he) (ss_step (x_for hr2 he2) ?_)))) (hfin true (FE s p f (.tup ds) y2 y3 y4 y5 none none))
        simp only [xs_cons, x_ret, ev_lit, QE.R.calm_okS, QE.R.bind_okS]
end
end K68

set_option linter.all false
set_option maxRecDepth 10000
namespace K68
open QE
theorem fin_bl (S X : Sto) (b : Bool) (e : Env) : finish S.length (.ok (.rt (.bl b), e) (S ++ X)) = .ok (.bl b) S := by
  cases X with
  | nil => simp [finish]
  | cons x X => simp [finish, freeze, freeze1, Val.low]
/-! ### rectangular tables in cells -/
def TBr (s p : Nat) (g : Nat → Nat → Int) : Sto := (List.range s).map fun r => rowO p (g r)
theorem TBr_len (s p : Nat) (g : Nat → Nat → Int) : (TBr s p g).length = s := by simp [TBr]
theorem TBr_at (S J : Sto) (s p : Nat) (g : Nat → Nat → Int) {r : Nat} (hr : r < s) : (S ++ (TBr s p g ++ J))[S.length + r]? = some (rowO p (g r)) := by
  rw [List.getElem?_append_right (by omega), Nat.add_sub_cancel_left, List.getElem?_append_left (by rw [TBr_len]; exact hr)]
  simp [TBr, hr]
theorem set_tbr {s p r c : Nat} (hr : r < s) (hc : c < p) (S J : Sto) (g : Nat → Nat → Int) (x : Int) :
    (S ++ (TBr s p g ++ J)).set (S.length + r) (.lst (((List.range p).map fun c => Val.int (g r c)).set c (.int x))) = S ++ (TBr s p (upd2 g r c x) ++ J) := by
  rw [List.set_append_right _ _ (by omega), Nat.add_sub_cancel_left, List.set_append_left _ _ (by rw [TBr_len]; exact hr)]
  congr 2
  apply List.ext_getElem?
  intro i
  by_cases hi : i = r
  · subst hi
    rw [List.getElem?_set_self (by rw [TBr_len]; exact hr)]
    simp only [TBr, List.getElem?_map, List.getElem?_range hr, Option.map_some, rowO]
    congr 2
    apply List.ext_getElem?
    intro j
    by_cases hj : j = c
    · subst hj
      rw [List.getElem?_set_self (by simpa using hc)]
      simp [List.getElem?_range hc, upd2]
    · rw [List.getElem?_set_ne (fun z => hj z.symm)]
      simp only [List.getElem?_map]
      by_cases hjn : j < p
      · simp [List.getElem?_range hjn, upd2, hj]
      · simp [hjn]
  · rw [List.getElem?_set_ne (fun z => hi z.symm)]
    simp only [TBr, List.getElem?_map]
    by_cases hin : i < s
    · simp only [List.getElem?_range hin, Option.map_some, rowO]
      congr 2
      apply List.map_congr_left
      intro j _
      simp [upd2, hi]
    · simp [hin]
theorem setIx_tbr {s p r c : Nat} (hr : r < s) (hc : c < p) (b : Nat) (S J : Sto) (g : Nat → Nat → Int) (x : Int) :
    QE.setIx b (S ++ (TBr s p g ++ J)) (.ref (S.length + r)) (nv c) (.int x) = .ok () (S ++ (TBr s p (upd2 g r c x) ++ J)) := by
  have h1 := TBr_at S J s p g hr
  simp only [QE.setIx, h1, rowO, nv]
  rw [show ((List.range p).map fun c => Val.int (g r c)).length = p by simp, ixN_nat hc]
  simp only [set_int]
  rw [if_pos (by simp [mayPut, Val.low]), set_tbr hr hc]
/-! ### the law's own judge of tables -/
def inBody2 : List Stm := [(.if_ (.cmp .is_ (.var 6) (.lit .non)) [.cont] []), (.if_ (.or [(.not (.isi .int (.var 6))), (.isi .bool (.var 6)), (.not (.chain .le .lt (.lit (.int 0)) (.var 6) (.bi .len [(.idx (.var 0) (.lit (.int 0)))]))), (.cmp .in_ (.var 6) (.var 4))]) [(.ret (.lit (.bl false)))] []), (.expr (.append (.var 4) (.var 6))), (.setIx (.idx (.var 2) (.var 5)) (.var 6) (.bin .sub (.idx (.idx (.var 2) (.var 5)) (.var 6)) (.lit (.int 1))))]
def dayBody2 : List Stm := [(.asg (.name 4) (.cell (.list []))), (.for_ (.tup [(.name 5), (.name 6)]) (.enum (.var 3)) inBody2)]
def dec1 (W : Nat → Nat → Int) (k : Nat) (x : Val) : Nat → Nat → Int := match toO x with
  | some c => upd2 W k c (W k c - 1)
  | none => W
def decr : (Nat → Nat → Int) → Nat → List Val → Nat → Nat → Int
  | W, _, [] => W
  | W, k, x :: xs => decr (dec1 W k x) (k + 1) xs
theorem dec1_at (W : Nat → Nat → Int) (k : Nat) (x : Val) (r c : Nat) : dec1 W k x r c = W r c - if r = k ∧ toO x = some c then 1 else 0 := by
  unfold dec1
  cases hx : toO x with
  | none => simp
  | some d =>
    simp only [upd2]
    by_cases h1 : r = k ∧ c = d
    · obtain ⟨rfl, rfl⟩ := h1
      simp
    · rw [if_neg h1]
      have : ¬ (r = k ∧ some d = some c) := fun z => h1 ⟨z.1, by have := z.2; simp at this; exact this.symm⟩
      rw [if_neg this]
      omega
theorem decr_at : ∀ (xs : List Val) (W : Nat → Nat → Int) (k r c : Nat), decr W k xs r c = W r c - if k ≤ r ∧ gd xs (r - k) = some c then 1 else 0
  | [], W, k, r, c => by simp [decr, gd]
  | x :: xs, W, k, r, c => by
    rw [decr, decr_at xs, dec1_at]
    by_cases h1 : r = k
    · subst h1
      have h2 : ¬ (r + 1 ≤ r) := by omega
      simp [h2, gd]
    · by_cases h3 : k ≤ r
      · have h4 : k + 1 ≤ r := by omega
        have h5 : r - k = (r - (k + 1)) + 1 := by omega
        simp only [h1, false_and, if_false, h3, h4, true_and, h5, gd, List.getElem?_cons_succ]
        omega
      · have h4 : ¬ (k + 1 ≤ r) := by omega
        simp [h1, h3, h4]
section
variable {s p : Nat} {f : Nat → Nat → Nat}
def IE (s p : Nat) (f : Nat → Nat → Nat) (v : Val) (o : Nat) (x3 x4 x5 x6 : Option Val) : Env := [some (encF s p f), some v, some (sq o s), x3, x4, x5, x6, none, none]
def LS (S : Sto) (s p : Nat) (W : Nat → Nat → Int) (J : Sto) (l : List Nat) : Sto := S ++ (TBr s p W ++ (J ++ [.lst (l.map nv)]))
theorem LS_lent (S : Sto) (s p : Nat) (W : Nat → Nat → Int) (J : Sto) (l : List Nat) : (LS S s p W J l)[S.length + s + J.length]? = some (.lst (l.map nv)) := by
  unfold LS
  rw [List.getElem?_append_right (by omega), List.getElem?_append_right (by rw [TBr_len]; omega), TBr_len, List.getElem?_append_right (by omega)]
  rw [show S.length + s + J.length - S.length - s - J.length = 0 by omega]
  rfl
theorem LS_app {S : Sto} {s p : Nat} {W : Nat → Nat → Int} {J : Sto} {l : List Nat} (hl : l.length ≤ 1000) (b c : Nat) (hb : b ≤ S.length) : QE.append b (LS S s p W J l) (.ref (S.length + s + J.length)) (nv c) = .ok .non (LS S s p W J (l ++ [c])) := by
  have h1 := LS_lent S s p W J l
  have h2 : (l.map nv).length < lim := by simp [lim]; omega
  simp only [QE.append, h1]
  rw [if_pos (by simp only [h2, decide_true, Bool.true_and, mayPut]; simp; left; omega)]
  unfold LS
  rw [List.set_append_right _ _ (by omega), List.set_append_right _ _ (by rw [TBr_len]; omega), TBr_len, List.set_append_right _ _ (by omega)]
  rw [show S.length + s + J.length - S.length - s - J.length = 0 by omega]
  simp
theorem in_list {S : Sto} {t : Nat} {l : List Nat} (hS : S[t]? = some (.lst (l.map nv))) (c : Nat) : QE.cmp S .in_ (nv c) (.ref t) = some (decide (c ∈ l)) := by
  simp only [QE.cmp, isIn, asList, hS, anyEq, chk_nv, any_nv]
  rw [if_pos (by simp [nv, Val.chk])]
theorem in_run (h : VF s p f) (k b : Nat) (S : Sto) (hb : b ≤ S.length) (v : Val) (J : Sto) (x3 : Option Val) : ∀ (xs : List Val) (i : Nat) (l : List Nat) (W : Nat → Nat → Int) (x5 x6 : Option Val), i + xs.length ≤ s → xs.all Val.flat = true → l.length + xs.length ≤ 1000 →
    (vrun p l xs = true → ∃ l' y5 y6, forLoop (.tup [(.name 5), (.name 6)]) (execSs (cxt prog k b) inBody2) (enumFrom i xs) (IE s p f v S.length x3 (some (.ref (S.length + s + J.length))) x5 x6) (LS S s p W J l) = .ok (.nx, IE s p f v S.length x3 (some (.ref (S.length + s + J.length))) y5 y6) (LS S s p (decr W i xs) J l')) ∧
    (vrun p l xs = false → ∃ e' X, forLoop (.tup [(.name 5), (.name 6)]) (execSs (cxt prog k b) inBody2) (enumFrom i xs) (IE s p f v S.length x3 (some (.ref (S.length + s + J.length))) x5 x6) (LS S s p W J l) = .ok (.rt (.bl false), e') (S ++ X))
  | [], i, l, W, x5, x6, _, _, _ => ⟨fun _ => ⟨l, x5, x6, rfl⟩, fun z => by simp [vrun] at z⟩
  | x :: xs, i, l, W, x5, x6, hi, hf, hl => by
    have hs1 := h.s1
    rw [List.all_cons, Bool.and_eq_true] at hf
    simp only [List.length_cons] at hi hl
    have hbind : ∀ x5 x6, x.settle = x → bindT (.tup [(.name 5), (.name 6)]) (.tup [.int i, x]) (IE s p f v S.length x3 (some (.ref (S.length + s + J.length))) x5 x6) = some (IE s p f v S.length x3 (some (.ref (S.length + s + J.length))) (some (nv i)) (some x)) := fun x5 x6 hx => by
      simp [IE, hx, nv]
    have bad : ∀ (T : Sto), x.settle = x → QE.cmp T .is_ x .non = some false → (∀ _ : Sto, evalE (cxt prog k b) (.or [(.not (.isi .int (.var 6))), (.isi .bool (.var 6)), (.not (.chain .le .lt (.lit (.int 0)) (.var 6) (.bi .len [(.idx (.var 0) (.lit (.int 0)))]))), (.cmp .in_ (.var 6) (.var 4))]) (IE s p f v S.length x3 (some (.ref (S.length + s + J.length))) (some (nv i)) (some x)) (LS S s p W J l) = .ok (.bl true) (LS S s p W J l)) →
        ∃ e' X, forLoop (.tup [(.name 5), (.name 6)]) (execSs (cxt prog k b) inBody2) (enumFrom i (x :: xs)) (IE s p f v S.length x3 (some (.ref (S.length + s + J.length))) x5 x6) (LS S s p W J l) = .ok (.rt (.bl false), e') (S ++ X) := fun T hx hn ho => by
      refine ⟨IE s p f v S.length x3 (some (.ref (S.length + s + J.length))) (some (nv i)) (some x), TBr s p W ++ (J ++ [.lst (l.map nv)]), ?_⟩
      have hn' : ∀ T', QE.cmp T' .is_ x .non = some false := fun T' => hn
      rw [enumFrom, forLoop, hbind x5 x6 hx]
      simp only
      have : execSs (cxt prog k b) inBody2 (IE s p f v S.length x3 (some (.ref (S.length + s + J.length))) (some (nv i)) (some x)) (LS S s p W J l) = .ok (.rt (.bl false), IE s p f v S.length x3 (some (.ref (S.length + s + J.length))) (some (nv i)) (some x)) (LS S s p W J l) := by
        unfold inBody2
        refine ss_step (env' := IE s p f v S.length x3 (some (.ref (S.length + s + J.length))) (some (nv i)) (some x)) (S' := LS S s p W J l) (by
          simp only [x_if, ev_cmp, IE, ev_var, ev_lit, List.getElem?_cons_succ, List.getElem?_cons_zero, QE.R.bind_okS, hn', QE.R.of_some, QE.R.calm_okS, bl_ok, Bool.false_eq_true, if_false, xs_nil]) ?_
        rw [xs_cons, x_if, ho []]
        simp only [QE.R.calm_okS, QE.R.bind_okS, bl_ok, if_true, xs_cons, x_ret, ev_lit]
      rw [this]
      rfl
    have hflat := hf.1
    cases x <;> simp only [Val.flat] at hflat <;> try (cases hflat; done)
    · -- none: the next one
      obtain ⟨i1, i2⟩ := in_run h k b S hb v J x3 xs (i + 1) l W (some (nv i)) (some .non) (by omega) hf.2 (by omega)
      have hbody : execSs (cxt prog k b) inBody2 (IE s p f v S.length x3 (some (.ref (S.length + s + J.length))) (some (nv i)) (some .non)) (LS S s p W J l) = .ok (.ct, IE s p f v S.length x3 (some (.ref (S.length + s + J.length))) (some (nv i)) (some .non)) (LS S s p W J l) := by
        have hn : ∀ T' : Sto, QE.cmp T' .is_ .non .non = some true := fun T' => rfl
        have ct : ∀ (c : Ctx) (e : Env) (T : Sto), execS c .cont e T = .ok (.ct, e) T := fun c e T => by rw [execS]
        simp only [inBody2, xs_cons, xs_nil, x_if, ev_cmp, IE, ev_var, ev_lit, List.getElem?_cons_succ, List.getElem?_cons_zero, QE.R.bind_okS, hn, QE.R.of_some, QE.R.calm_okS, bl_ok, if_true, ct]
      have e0 : vrun p l (.non :: xs) = vrun p l xs := by rw [vrun]
      have e1 : decr W i (.non :: xs) = decr W (i + 1) xs := rfl
      rw [e0, e1]
      refine ⟨fun z => ?_, fun z => ?_⟩
      · obtain ⟨l', y5, y6, hl'⟩ := i1 z
        refine ⟨l', y5, y6, ?_⟩
        rw [enumFrom, forLoop, hbind x5 x6 rfl]
        simp only [hbody, QE.R.bind_okS, hl']
      · obtain ⟨e', X, hl'⟩ := i2 z
        refine ⟨e', X, ?_⟩
        rw [enumFrom, forLoop, hbind x5 x6 rfl]
        simp only [hbody, QE.R.bind_okS, hl']
    · rename_i q
      refine ⟨fun z => by rw [vrun] at z <;> first | (cases z; done) | (intros; simp_all), fun _ => bad [] rfl rfl fun _ => ?_⟩
      have t1 : ∀ T : Sto, isTy T .int (.bl q) = some true := fun T => rfl
      have t2 : ∀ T : Sto, isTy T .bool (.bl q) = some true := fun T => rfl
      simp only [IE, ev_or, eor_cons, ev_not, ev_isi, ev_var, List.getElem?_cons_succ, List.getElem?_cons_zero, QE.R.bind_okS, t1, t2, QE.R.of_some, bl_ok, Bool.not_true, Bool.false_eq_true, if_false, if_true]
    · rename_i q
      have t1 : ∀ T : Sto, isTy T .int (.int q) = some true := fun T => rfl
      have t2 : ∀ T : Sto, isTy T .bool (.int q) = some false := fun T => rfl
      have n1 : ∀ T : Sto, QE.cmp T .is_ (.int q) .non = some false := fun T => rfl
      have c1 : ∀ T : Sto, QE.cmp T .le (.int 0) (.int q) = some (decide (0 ≤ q)) := fun T => rfl
      have c2 : ∀ T : Sto, QE.cmp T .lt (.int q) (nv p) = some (decide (q < (p : Int))) := fun T => rfl
      rw [vrun]
      by_cases h0 : 0 ≤ q
      · by_cases hp : q < (p : Int)
        · have eq' : (.int q : Val) = nv q.toNat := by
            show Val.int q = Val.int (q.toNat : Int)
            congr 1
            omega
          have hin := in_list (LS_lent S s p W J l) q.toNat
          rw [← eq'] at hin
          rw [decide_eq_true ⟨h0, hp⟩, Bool.true_and]
          by_cases hm : q.toNat ∈ l
          · rw [decide_eq_true hm]
            refine ⟨fun z => Bool.noConfusion z, fun _ => bad [] rfl rfl fun _ => ?_⟩
            rw [decide_eq_true hm] at hin
            simp only [IE, ev_or, eor_cons, ev_not, ev_isi, ev_chain, ev_cmp, ev_bi, es_cons, es_nil, ev_idx, ev_lit, ev_var, List.getElem?_cons_succ, List.getElem?_cons_zero, QE.R.bind_okS, t1, t2, c1, c2, decide_eq_true h0, decide_eq_true hp, it_enc0 (show 0 < s by omega), set_rowV, len_rowV, hin, QE.R.of_some, bl_ok, Bool.not_true, Bool.false_eq_true, if_false, if_true]
          · rw [decide_eq_false hm, Bool.not_false, Bool.true_and]
            rw [decide_eq_false hm] at hin
            have hlen2 : (l ++ [q.toNat]).length + xs.length ≤ 1000 := by
              rw [List.length_append, List.length_cons, List.length_nil]
              omega
            obtain ⟨i1, i2⟩ := in_run h k b S hb v J x3 xs (i + 1) (l ++ [q.toNat]) (dec1 W i (.int q)) (some (nv i)) (some (.int q)) (by omega) hf.2 hlen2
            have his : i < s := by omega
            have hpn : q.toNat < p := by omega
            have a1 := LS_app (S := S) (s := s) (p := p) (W := W) (J := J) (l := l) (by omega) b q.toNat hb
            rw [← eq'] at a1
            have i0 : ∀ T : Sto, item T (sq S.length s) (nv i) = some (.ref (S.length + i)) := fun T => it_sq his _ T
            have i3 : item (LS S s p W J (l ++ [q.toNat])) (.ref (S.length + i)) (.int q) = some (.int (W i q.toNat)) := by
              rw [eq']
              exact it_row (TBr_at S _ s p W his) hpn
            have i4 := setIx_tbr (s := s) (p := p) his hpn b S (J ++ [.lst ((l ++ [q.toNat]).map nv)]) W (W i q.toNat - 1)
            rw [← eq'] at i4
            have e4 : dec1 W i (.int q) = upd2 W i q.toNat (W i q.toNat - 1) := rfl
            have al : asList (LS S s p W J l) (.ref (S.length + s + J.length)) = some (l.map nv) := by simp [asList, LS_lent]
            have sb : ∀ T : Sto, QE.bin T .sub (.int (W i q.toNat)) (.int 1) = some (.int (W i q.toNat - 1)) := fun T => rfl
            have hbody : execSs (cxt prog k b) inBody2 (IE s p f v S.length x3 (some (.ref (S.length + s + J.length))) (some (nv i)) (some (.int q))) (LS S s p W J l) = .ok (.nx, IE s p f v S.length x3 (some (.ref (S.length + s + J.length))) (some (nv i)) (some (.int q))) (LS S s p (dec1 W i (.int q)) J (l ++ [q.toNat])) := by
              rw [e4]
              have i4' : QE.setIx b (LS S s p W J (l ++ [q.toNat])) (.ref (S.length + i)) (.int q) (.int (W i q.toNat - 1)) = .ok () (LS S s p (upd2 W i q.toNat (W i q.toNat - 1)) J (l ++ [q.toNat])) := i4
              simp only [inBody2, xs_cons, xs_nil, x_if, IE, ev_or, eor_cons, eor_nil, ev_not, ev_isi, ev_chain, ev_cmp, ev_bi, es_cons, es_nil, ev_idx, ev_lit, ev_var, List.getElem?_cons_succ, List.getElem?_cons_zero, QE.R.bind_okS, n1, t1, t2, c1, c2, decide_eq_true h0, decide_eq_true hp, it_enc0 (show 0 < s by omega), set_rowV, len_rowV, hin, QE.R.of_some, QE.R.calm_okS, bl_ok, Bool.not_true, Bool.false_eq_true, if_false, if_true, x_expr, ev_append, al, set_int, cxt_base, a1, x_setIx, ev_bin, i0, i3, sb, i4']
            have e1 : decr W i (.int q :: xs) = decr (dec1 W i (.int q)) (i + 1) xs := rfl
            rw [e1]
            refine ⟨fun z => ?_, fun z => ?_⟩
            · obtain ⟨l', y5, y6, hl'⟩ := i1 z
              refine ⟨l', y5, y6, ?_⟩
              rw [enumFrom, forLoop, hbind x5 x6 rfl]
              simp only [hbody, QE.R.bind_okS, hl']
            · obtain ⟨e', X, hl'⟩ := i2 z
              refine ⟨e', X, ?_⟩
              rw [enumFrom, forLoop, hbind x5 x6 rfl]
              simp only [hbody, QE.R.bind_okS, hl']
        · rw [decide_eq_false (fun z => hp z.2), Bool.false_and]
          refine ⟨fun z => Bool.noConfusion z, fun _ => bad [] rfl rfl fun _ => ?_⟩
          simp only [IE, ev_or, eor_cons, ev_not, ev_isi, ev_chain, ev_cmp, ev_bi, es_cons, es_nil, ev_idx, ev_lit, ev_var, List.getElem?_cons_succ, List.getElem?_cons_zero, QE.R.bind_okS, t1, t2, c1, c2, decide_eq_true h0, decide_eq_false hp, it_enc0 (show 0 < s by omega), set_rowV, len_rowV, QE.R.of_some, bl_ok, Bool.not_true, Bool.not_false, Bool.false_eq_true, if_false, if_true]
      · rw [decide_eq_false (fun z => h0 z.1), Bool.false_and]
        refine ⟨fun z => Bool.noConfusion z, fun _ => bad [] rfl rfl fun _ => ?_⟩
        simp only [IE, ev_or, eor_cons, ev_not, ev_isi, ev_chain, ev_lit, ev_var, List.getElem?_cons_succ, List.getElem?_cons_zero, QE.R.bind_okS, t1, t2, c1, decide_eq_false h0, QE.R.of_some, bl_ok, Bool.not_true, Bool.not_false, Bool.false_eq_true, if_false, if_true]
    · rename_i q
      refine ⟨fun z => by rw [vrun] at z <;> first | (cases z; done) | (intros; simp_all), fun _ => bad [] rfl rfl fun _ => ?_⟩
      have t1 : ∀ T : Sto, isTy T .int (.str q) = some false := fun T => rfl
      simp only [IE, ev_or, eor_cons, ev_not, ev_isi, ev_var, List.getElem?_cons_succ, List.getElem?_cons_zero, QE.R.bind_okS, t1, QE.R.of_some, bl_ok, Bool.not_false, if_true]
end
end K68

set_option linter.all false
set_option maxRecDepth 10000
namespace K68
open QE
theorem compC_run {α : Type} {n : Nat} {all : List Val} {tg : T} {test : Env → Sto → R Bool} {elt : Env → Sto → R Val} {env : Env} {S : Sto} (hc : cellIs S n all = true) (e : α → Val) (p : α → Bool) (g : α → Val) :
    ∀ (xs : List α), (∀ a ∈ xs, ∃ env', bindT tg (e a) env = some env' ∧ test env' S = .ok (p a) S ∧ (p a = true → elt env' S = .ok (g a) S)) →
    compLoopC n all tg test elt env (xs.map e) S = .ok ((xs.filter p).map fun a => (g a).settle) S
  | [], _ => by
    rw [List.map_nil, compLoopC, if_pos hc]
    rfl
  | x :: xs, h => by
    obtain ⟨env', h1, h2, h3⟩ := h x (by simp)
    have ih := compC_run hc e p g xs fun a ha => h a (List.mem_cons_of_mem _ ha)
    rw [List.map_cons, compLoopC, if_pos hc]
    simp only [h1, h2, QE.R.bind_okS]
    cases hp : p x with
    | true => simp [h3 hp, ih, List.filter_cons, hp]
    | false => simp [ih, List.filter_cons, hp]
section
variable {s p : Nat} {f : Nat → Nat → Nat}
theorem days_run (h : VF s p f) (k b : Nat) (S : Sto) (hb : b ≤ S.length) (v : Val) : ∀ (ds : List Val) (W : Nat → Nat → Int) (J : Sto) (x3 x4 x5 x6 : Option Val), (∀ d ∈ ds, DV d ∧ dOk s d = true) →
    ((ds.all fun d => vrun p [] (its d)) = true → ∃ W' J' y3 y4 y5 y6, (∀ r c, r < s → W' r c = W r c - ((ds.countP fun d => decide (gd (its d) r = some c)) : Nat)) ∧
      forLoop (.name 3) (execSs (cxt prog k b) dayBody2) ds (IE s p f v S.length x3 x4 x5 x6) (S ++ (TBr s p W ++ J)) = .ok (.nx, IE s p f v S.length y3 y4 y5 y6) (S ++ (TBr s p W' ++ J'))) ∧
    ((ds.all fun d => vrun p [] (its d)) = false → ∃ e' X, forLoop (.name 3) (execSs (cxt prog k b) dayBody2) ds (IE s p f v S.length x3 x4 x5 x6) (S ++ (TBr s p W ++ J)) = .ok (.rt (.bl false), e') (S ++ X))
  | [], W, J, x3, x4, x5, x6, _ => ⟨fun _ => ⟨W, J, x3, x4, x5, x6, fun r c _ => by simp, rfl⟩, fun z => by simp at z⟩
  | d :: ds, W, J, x3, x4, x5, x6, hd => by
    have hs2 := h.s2
    obtain ⟨hd1, hd2⟩ := hd d (by simp)
    obtain ⟨w1, w2, w3, w4⟩ := dOk_walk hd2
    have hfl := dv_flat hd1 hd2
    obtain ⟨t1, t2⟩ := in_run h k b S hb v J (some d) (its d) 0 [] W x5 x6 (by omega) hfl (by simp; omega)
    have l0 : (0 : Nat) ≤ lim := Nat.zero_le _
    have hlen : (S ++ (TBr s p W ++ J)).length = S.length + s + J.length := by simp [TBr_len]; omega
    have estep : execS (cxt prog k b) (.asg (.name 4) (.cell (.list []))) (IE s p f v S.length (some d) x4 x5 x6) (S ++ (TBr s p W ++ J)) = .ok (.nx, IE s p f v S.length (some d) (some (.ref (S.length + s + J.length))) x5 x6) (LS S s p W J []) := by
      simp only [IE, x_asg, ev_cell, ev_list, es_nil, QE.R.bind_okS, List.length_nil, l0, if_true, newCell, hlen, QE.R.calm_okS, bind_name, set_ref, QE.R.of_some, List.set_cons_succ, List.set_cons_zero]
      simp [LS]
    have hsrc : evalSrc (cxt prog k b) (.enum (.var 3)) (IE s p f v S.length (some d) (some (.ref (S.length + s + J.length))) x5 x6) (LS S s p W J []) = .ok (enumFrom 0 (its d)) (LS S s p W J []) := by
      simp only [sr_enum, IE, ev_var, List.getElem?_cons_succ, List.getElem?_cons_zero, QE.R.bind_okS, w2, QE.R.of_some]
    have e0 : (IE s p f v S.length x3 x4 x5 x6).set 3 (some d) = IE s p f v S.length (some d) x4 x5 x6 := rfl
    rw [List.all_cons]
    cases hv : vrun p [] (its d) with
    | false =>
      obtain ⟨e', X, he⟩ := t2 hv
      refine ⟨fun z => by simp at z, fun _ => ⟨e', X, ?_⟩⟩
      have hbody : execSs (cxt prog k b) dayBody2 (IE s p f v S.length (some d) x4 x5 x6) (S ++ (TBr s p W ++ J)) = .ok (.rt (.bl false), e') (S ++ X) := by
        unfold dayBody2
        refine ss_step estep ?_
        rw [xs_cons, x_for hsrc he]
        simp only [QE.R.bind_okS]
      simp only [forLoop, bind_name, w4, e0, hbody, QE.R.bind_okS]
    | true =>
      obtain ⟨l', y5, y6, he⟩ := t1 hv
      have hbody : execSs (cxt prog k b) dayBody2 (IE s p f v S.length (some d) x4 x5 x6) (S ++ (TBr s p W ++ J)) = .ok (.nx, IE s p f v S.length (some d) (some (.ref (S.length + s + J.length))) y5 y6) (S ++ (TBr s p (decr W 0 (its d)) ++ (J ++ [.lst (l'.map nv)]))) := by
        unfold dayBody2
        refine ss_step estep (ss_step (x_for hsrc he) ?_)
        rw [xs_nil]
        rfl
      obtain ⟨i1, i2⟩ := days_run h k b S hb v ds (decr W 0 (its d)) (J ++ [.lst (l'.map nv)]) (some d) (some (.ref (S.length + s + J.length))) y5 y6 fun x hx => hd x (List.mem_cons_of_mem _ hx)
      rw [Bool.true_and]
      refine ⟨fun z => ?_, fun z => ?_⟩
      · obtain ⟨W', J', y3', y4', y5', y6', hW, hl⟩ := i1 z
        refine ⟨W', J', y3', y4', y5', y6', fun r c hr => ?_, ?_⟩
        · rw [hW r c hr, decr_at, List.countP_cons, Nat.sub_zero]
          by_cases hg : gd (its d) r = some c
          · simp [hg]; omega
          · simp [hg]
        · simp only [forLoop, bind_name, w4, e0, hbody, QE.R.bind_okS, hl]
      · obtain ⟨e', X, hl⟩ := i2 z
        refine ⟨e', X, ?_⟩
        simp only [forLoop, bind_name, w4, e0, hbody, QE.R.bind_okS, hl]
/-- are all left at naught -/
def zeroB (s p : Nat) (W : Nat → Nat → Int) : Bool := (List.range s).all fun r => (List.range p).all fun c => decide (W r c = 0)
theorem left_cells (c : Ctx) (env : Env) (h7 : ∀ x : Val, (env.set 7 (some x))[7]? = some (some x)) : ∀ (l : List Nat) (S : Sto),
    compLoop (.name 7) (evalAnd c []) (evalE c (.cell (.bi .list [(.var 7)]))) env (l.map fun r => rowV p (f r)) S = .ok ((List.range l.length).map fun i => .ref (S.length + i)) (S ++ l.map fun r => rowO p fun c => (f r c : Int))
  | [], S => by simp [compLoop]
  | x :: l, S => by
    have ih := left_cells c env h7 l (S ++ [rowO p fun c => (f x c : Int)])
    have hl : ∀ S : Sto, callBi S .list [rowV p (f x)] = some (.lst true ((List.range p).map fun c => .int (f x c : Int))) := fun S => rfl
    have hn : ∀ S : Sto, newCell S (.lst true ((List.range p).map fun c => Val.int (f x c : Int))) = .ok (.ref S.length) (S ++ [rowO p fun c => (f x c : Int)]) := fun S => rfl
    simp only [List.map_cons, compLoop, bind_name, set_rowV, ea_nil, QE.R.bind_okS, if_true, ev_cell, ev_bi, es_cons, es_nil, ev_var, h7, hl, QE.R.of_some, hn, ih]
    rw [List.length_cons, List.range_succ_eq_map]
    simp only [List.map_cons, List.map_map, List.length_append, List.length_cons, List.length_nil, List.append_assoc, Nat.add_zero, set_ref]
    congr 1
    · congr 1
      apply List.map_congr_left
      intro i _
      simp only [Function.comp_apply]
      congr 1
      omega
theorem last_cmp (h : VF s p f) (k b : Nat) (S J : Sto) (W : Nat → Nat → Int) (v : Val) (x3 x4 x5 x6 : Option Val) :
    evalE (cxt prog k b) (.cmp .eq (.comp [7] (.name 7) (.it (.var 2)) [(.cmp .ne (.compC [8] (.name 8) (.var 7) [(.cmp .ne (.var 8) (.lit (.int 0)))] (.var 8)) (.list []))] (.var 7)) (.list [])) (IE s p f v S.length x3 x4 x5 x6) (S ++ (TBr s p W ++ J)) = .ok (.bl (zeroB s p W)) (S ++ (TBr s p W ++ J)) := by
  have hs2 := h.s2
  have hp2 := h.p2
  let Z := S ++ (TBr s p W ++ J)
  have l0 : (0 : Nat) ≤ lim := Nat.zero_le _
  let P : Nat → Bool := fun r => !((List.range p).all fun c => decide (W r c = 0))
  have inner : ∀ r, r < s → evalE (cxt prog k b) (.cmp .ne (.compC [8] (.name 8) (.var 7) [(.cmp .ne (.var 8) (.lit (.int 0)))] (.var 8)) (.list [])) [some (encF s p f), some v, some (sq S.length s), x3, x4, x5, x6, some (.ref (S.length + r)), none] Z = .ok (.bl (P r)) Z := fun r hr => by
    have hc : cellIs Z (S.length + r) ((List.range p).map fun c => .int (W r c)) = true := by
      have := TBr_at S J s p W hr
      simp only [cellIs, Z, this, rowO]
      have := sameL_int ((List.range p).map (W r))
      rw [List.map_map] at this
      exact this
    have hr' := compC_run (n := S.length + r) (all := (List.range p).map fun c => .int (W r c)) (tg := .name 8) (test := evalAnd (cxt prog k b) [(.cmp .ne (.var 8) (.lit (.int 0)))]) (elt := evalE (cxt prog k b) (.var 8)) (env := wipe [some (encF s p f), some v, some (sq S.length s), x3, x4, x5, x6, some (.ref (S.length + r)), none] [8]) (S := Z) hc (fun c => .int (W r c)) (fun c => !decide (W r c = 0)) (fun c => .int (W r c)) (List.range p) fun c _ =>
      ⟨[some (encF s p f), some v, some (sq S.length s), x3, x4, x5, x6, some (.ref (S.length + r)), some (.int (W r c))], by simp [wipe], by
        have q : QE.cmp Z .ne (.int (W r c)) (.int 0) = some (!decide (W r c = 0)) := by
          simp [QE.cmp, eqVal, res, Val.chk, Val.eqv, nt]
          by_cases hz : W r c = 0 <;> simp [hz]
        simp only [ea_cons, ea_nil, ev_cmp, ev_var, ev_lit, List.getElem?_cons_succ, List.getElem?_cons_zero, QE.R.bind_okS, q, QE.R.of_some, bl_ok]
        by_cases hz : W r c = 0 <;> simp [hz], fun _ => by simp⟩
    have hv := ev_compC (c := cxt prog k b) (env := [some (encF s p f), some v, some (sq S.length s), x3, x4, x5, x6, some (.ref (S.length + r)), none]) (S := Z) (own := [8]) (tg := .name 8) (e := .var 7) (ifs := [(.cmp .ne (.var 8) (.lit (.int 0)))]) (elt := .var 8) (n := S.length + r) (S1 := Z) (by simp) (TBr_at S J s p W hr) hr' (by
      rw [List.length_map]
      exact Nat.le_trans (List.length_filter_le _ _) (small_lim (by simp; omega)))
    let L : List Val := ((List.range p).filter fun c => !decide (W r c = 0)).map fun c => (Val.int (W r c)).settle
    have q : ∀ T : Sto, QE.cmp T .ne (.lst true L) (.lst true []) = some (P r) := fun T => by
      have hP : P r = !L.isEmpty := by
        show (!((List.range p).all fun c => decide (W r c = 0))) = _
        congr 1
        cases hall : ((List.range p).all fun c => decide (W r c = 0)) with
        | true =>
          have : ((List.range p).filter fun c => !decide (W r c = 0)) = [] := by
            rw [List.filter_eq_nil_iff]
            intro c hc
            have := List.all_eq_true.mp hall c hc
            simp only [decide_eq_true_eq] at this
            simp [this]
          show true = (List.map _ ((List.range p).filter fun c => !decide (W r c = 0))).isEmpty
          rw [this]
          rfl
        | false =>
          have : ((List.range p).filter fun c => !decide (W r c = 0)) ≠ [] := fun z => by
            rw [List.filter_eq_nil_iff] at z
            have : ((List.range p).all fun c => decide (W r c = 0)) = true := by
              rw [List.all_eq_true]
              intro c hc
              have := z c hc
              simpa using this
            rw [this] at hall
            cases hall
          show false = (List.map _ ((List.range p).filter fun c => !decide (W r c = 0))).isEmpty
          cases hf : ((List.range p).filter fun c => !decide (W r c = 0)) with
          | nil => exact absurd hf this
          | cons _ _ => rfl
      have hchk : Val.chkL 63 L = true := by
        have : ∀ l : List Nat, Val.chkL 63 (l.map fun c => (Val.int (W r c)).settle) = true := by
          intro l
          induction l with
          | nil => simp [Val.chkL]
          | cons x l ih =>
            simp only [List.map_cons, Val.chkL, ih]
            simp [Val.chk]
        exact this _
      rw [hP]
      simp only [QE.cmp, eqVal, res, Val.chk, hchk, Val.chkL, Bool.and_self, if_true, nt]
      cases L with
      | nil => simp [Val.eqv, Val.eqvL]
      | cons _ _ => simp [Val.eqv, Val.eqvL]
    rw [ev_cmp, hv]
    simp only [QE.R.bind_okS, ev_list, es_nil, List.length_nil, l0, if_true]
    rw [show (Val.lst true (((List.range p).filter fun c => !decide (W r c = 0)).map fun c => (Val.int (W r c)).settle)) = .lst true L from rfl, q]
    rfl
  have hr := comp_run (tg := .name 7) (test := evalAnd (cxt prog k b) [(.cmp .ne (.compC [8] (.name 8) (.var 7) [(.cmp .ne (.var 8) (.lit (.int 0)))] (.var 8)) (.list []))]) (elt := evalE (cxt prog k b) (.var 7)) (env := wipe (IE s p f v S.length x3 x4 x5 x6) [7]) (S := Z) (fun r => .ref (S.length + r)) P (fun r => .ref (S.length + r)) (List.range s) fun r hr =>
    ⟨[some (encF s p f), some v, some (sq S.length s), x3, x4, x5, x6, some (.ref (S.length + r)), none], by simp [wipe, IE], by
      rw [ea_cons, inner r (List.mem_range.mp hr)]
      simp only [QE.R.bind_okS, bl_ok, ea_nil]
      cases P r <;> rfl, fun _ => by simp⟩
  have hv := ev_comp (c := cxt prog k b) (env := IE s p f v S.length x3 x4 x5 x6) (S := Z) (own := [7]) (tg := .name 7) (src := .it (.var 2)) (ifs := [(.cmp .ne (.compC [8] (.name 8) (.var 7) [(.cmp .ne (.var 8) (.lit (.int 0)))] (.var 8)) (.list []))]) (elt := .var 7) (xs := (List.range s).map fun r => .ref (S.length + r)) (S1 := Z) (by simp [IE, sq, walkOf]) hr (by
    rw [List.length_map]
    exact Nat.le_trans (List.length_filter_le _ _) (small_lim (by simp; omega)))
  let L : List Val := ((List.range s).filter P).map fun r => (Val.ref (S.length + r)).settle
  have hz : zeroB s p W = L.isEmpty := by
    unfold zeroB
    cases hall : ((List.range s).all fun r => (List.range p).all fun c => decide (W r c = 0)) with
    | true =>
      have : ((List.range s).filter P) = [] := by
        rw [List.filter_eq_nil_iff]
        intro r hr
        have := List.all_eq_true.mp hall r hr
        show ¬ ((!((List.range p).all fun c => decide (W r c = 0))) = true)
        rw [this]
        simp
      show true = (List.map _ ((List.range s).filter P)).isEmpty
      rw [this]
      rfl
    | false =>
      have : ((List.range s).filter P) ≠ [] := fun z => by
        rw [List.filter_eq_nil_iff] at z
        have : ((List.range s).all fun r => (List.range p).all fun c => decide (W r c = 0)) = true := by
          rw [List.all_eq_true]
          intro r hr
          have h1 := z r hr
          cases hq : ((List.range p).all fun c => decide (W r c = 0)) with
          | true => rfl
          | false => exact absurd (show P r = true by show (!_) = true; rw [hq]; rfl) h1
        rw [this] at hall
        cases hall
      show false = (List.map _ ((List.range s).filter P)).isEmpty
      cases hf : ((List.range s).filter P) with
      | nil => exact absurd hf this
      | cons _ _ => rfl
  have q : QE.cmp Z .eq (.lst true L) (.lst true []) = some (zeroB s p W) := by
    rw [hz]
    cases hL : ((List.range s).filter P) with
    | nil =>
      have : L = [] := by show List.map _ ((List.range s).filter P) = []; rw [hL]; rfl
      rw [this]
      simp [QE.cmp, eqVal, res, Val.chk, Val.chkL, Val.eqv, Val.eqvL]
    | cons r0 rs =>
      have hmem : ∀ r ∈ r0 :: rs, r < s := fun r hr => by
        have : r ∈ (List.range s).filter P := by rw [hL]; exact hr
        exact List.mem_range.mp (List.mem_filter.mp this).1
      have hLe : L = (r0 :: rs).map fun r => Val.ref (S.length + r) := by show List.map _ ((List.range s).filter P) = _; rw [hL]; rfl
      have n1 : (Val.lst true L).chk 64 = false := by rw [hLe]; simp [Val.chk, Val.chkL]
      have m1 : L.map (res Z) = (r0 :: rs).map fun r => Val.lst false ((List.range p).map fun c => .int (W r c)) := by
        rw [hLe, List.map_map]
        apply List.map_congr_left
        intro r hr
        have := TBr_at S J s p W (hmem r hr)
        simp only [Function.comp_apply, res, Z, this, rowO]
      have c2 : Val.chkL 63 ((r0 :: rs).map fun r => Val.lst false ((List.range p).map fun c => .int (W r c))) = true := by
        have : ∀ (d : Nat) (l : List Nat) (g : Nat → Int), Val.chkL d (l.map fun c => Val.int (g c)) = true := by
          intro d l g
          induction l with
          | nil => simp [Val.chkL]
          | cons x l ih => simp only [List.map_cons, Val.chkL, ih]; simp [Val.chk]
        have t2 : ∀ l : List Nat, Val.chkL 63 (l.map fun r => Val.lst false ((List.range p).map fun c => .int (W r c))) = true := by
          intro l
          induction l with
          | nil => simp [Val.chkL]
          | cons x l ih => simp only [List.map_cons, Val.chkL, ih, Val.chk, this, Bool.and_self]
        exact t2 _
      have emp : L.isEmpty = false := by rw [hLe]; rfl
      rw [emp]
      simp only [QE.cmp, eqVal]
      rw [show res Z (.lst true L) = .lst true L from rfl, n1, Bool.false_and, if_neg (by simp)]
      rw [show resD Z (.lst true L) = .lst true (L.map (res Z)) from rfl, show resD Z (.lst true []) = .lst true [] from rfl, m1]
      have c3 : (Val.lst true ((r0 :: rs).map fun r => Val.lst false ((List.range p).map fun c => .int (W r c)))).chk 64 = true := by
        simp only [Val.chk]
        exact c2
      rw [c3, if_pos (by simp [Val.chk, Val.chkL])]
      simp [Val.eqv, Val.eqvL]
  rw [ev_cmp, hv]
  simp only [QE.R.bind_okS, ev_list, es_nil, List.length_nil, l0, if_true]
  rw [show (Val.lst true (((List.range s).filter P).map fun r => (Val.ref (S.length + r)).settle)) = .lst true L from rfl, q]
  rfl
end
end K68

set_option linter.all false
set_option maxRecDepth 10000
namespace K68
open QE
theorem ne_nil' (T : Sto) (L : List Val) (h : Val.chkL 63 L = true) : QE.cmp T .ne (.lst true L) (.lst true []) = some (!L.isEmpty) := by
  simp only [QE.cmp, eqVal, res, Val.chk, h, Val.chkL, Bool.and_self, if_true, nt]
  cases L with
  | nil => simp [Val.eqv, Val.eqvL]
  | cons _ _ => simp [Val.eqv, Val.eqvL]
theorem filter_emp {α : Type} (P : α → Bool) (l : List α) : (l.filter fun a => !P a).isEmpty = l.all P := by
  cases h : l.all P with
  | true =>
    have : (l.filter fun a => !P a) = [] := by
      rw [List.filter_eq_nil_iff]
      intro a ha
      have := List.all_eq_true.mp h a ha
      simp [this]
    rw [this]
    rfl
  | false =>
    cases hf : (l.filter fun a => !P a) with
    | nil =>
      rw [List.filter_eq_nil_iff] at hf
      have : l.all P = true := by
        rw [List.all_eq_true]
        intro a ha
        have := hf a ha
        simpa using this
      rw [this] at h
      cases h
    | cons _ _ => rfl
section
variable {s p : Nat} {f : Nat → Nat → Nat}
theorem judge (h : VF s p f) {v : Val} (hv : TV v) (k : Nat) (S : Sto) : callFn prog (k + 1) 28 [encF s p f, v] S = .ok (.bl (tabB s p f v)) S := by
  have hs1 := h.s1
  have hs2 := h.s2
  have hp2 := h.p2
  rw [run_fn (d := d__law_is_table) rfl rfl]
  have l0 : (0 : Nat) ≤ lim := Nat.zero_le _
  obtain ⟨hset, h1 | ⟨ds, rfl, hl, hds⟩⟩ := hv
  · have e1 : isTy S .tuple v = some false := by cases v <;> simp only [noT] at h1 <;> first | (cases h1; done) | rfl
    have e2 : tabB s p f v = false := by cases v <;> simp only [noT] at h1 <;> first | (cases h1; done) | rfl
    simp [d__law_is_table, e1, e2]
  let E0 : Env := [some (encF s p f), some (.tup ds), none, none, none, none, none, none, none]
  have hr := comp_run (tg := .name 3) (test := evalAnd (cxt prog k S.length) [(.or [(.not (.isi .tuple (.var 3))), (.cmp .ne (.bi .len [(.var 3)]) (.bi .len [(.var 0)]))])]) (elt := evalE (cxt prog k S.length) (.lit (.int 1))) (env := wipe E0 [3]) (S := S) id (fun d => !dOk s d) (fun _ => .int 1) ds fun d hd =>
    ⟨[some (encF s p f), some (.tup ds), none, some d, none, none, none, none, none], by simp [wipe, E0, (hds d hd).1], by
      obtain ⟨hst, q | ⟨xs, q | q, _⟩⟩ := hds d hd
      · have t : isTy S .tuple d = some false := by cases d <;> simp only [noT] at q <;> first | (cases q; done) | rfl
        have e2 : dOk s d = false := by cases d <;> simp only [noT] at q <;> first | (cases q; done) | rfl
        simp only [ea_cons, ea_nil, ev_or, eor_cons, ev_not, ev_isi, ev_var, List.getElem?_cons_succ, List.getElem?_cons_zero, QE.R.bind_okS, t, QE.R.of_some, bl_ok, Bool.not_false, if_true, e2]
      · subst q
        have t : isTy S .tuple (.tup xs) = some true := rfl
        have c1 : QE.cmp S .ne (nv xs.length) (nv s) = some (!decide (xs.length = s)) := by
          have := eq_nv S xs.length s
          simp only [QE.cmp] at this
          simp only [QE.cmp, this, nt]
        have c2 : callBi S .len [.tup xs] = some (nv xs.length) := rfl
        simp only [ea_cons, ea_nil, ev_or, eor_cons, eor_nil, ev_not, ev_isi, ev_cmp, ev_bi, es_cons, es_nil, ev_var, List.getElem?_cons_succ, List.getElem?_cons_zero, QE.R.bind_okS, t, QE.R.of_some, bl_ok, Bool.not_true, Bool.false_eq_true, if_false, set_tup, c2, set_encF, len_enc, c1, dOk]
        cases decide (xs.length = s) <;> rfl
      · subst q
        have t : isTy S .tuple (.ptup xs) = some true := rfl
        have c1 : QE.cmp S .ne (nv xs.length) (nv s) = some (!decide (xs.length = s)) := by
          have := eq_nv S xs.length s
          simp only [QE.cmp] at this
          simp only [QE.cmp, this, nt]
        have c2 : callBi S .len [.ptup xs] = some (nv xs.length) := rfl
        simp only [ea_cons, ea_nil, ev_or, eor_cons, eor_nil, ev_not, ev_isi, ev_cmp, ev_bi, es_cons, es_nil, ev_var, List.getElem?_cons_succ, List.getElem?_cons_zero, QE.R.bind_okS, t, QE.R.of_some, bl_ok, Bool.not_true, Bool.false_eq_true, if_false, set_ptup, c2, set_encF, len_enc, c1, dOk]
        cases decide (xs.length = s) <;> rfl, fun _ => by simp⟩
  rw [List.map_id] at hr
  have hc := ev_comp (c := cxt prog k S.length) (env := E0) (S := S) (own := [3]) (tg := .name 3) (src := .it (.var 1)) (ifs := [(.or [(.not (.isi .tuple (.var 3))), (.cmp .ne (.bi .len [(.var 3)]) (.bi .len [(.var 0)]))])]) (elt := .lit (.int 1)) (xs := ds) (S1 := S) (by simp [E0, walkOf]) hr (by
    rw [List.length_map]
    exact Nat.le_trans (List.length_filter_le _ _) (small_lim (by omega)))
  have hchk : ∀ l : List Val, Val.chkL 63 (l.map fun _ => (Val.int 1).settle) = true := by
    intro l
    induction l with
    | nil => simp [Val.chkL]
    | cons x l ih =>
      simp only [List.map_cons, Val.chkL, ih]
      simp [Val.chk]
  have hq := ne_nil' S _ (hchk (ds.filter fun d => !dOk s d))
  have hemp : ((ds.filter fun d => !dOk s d).map fun _ => (Val.int 1).settle).isEmpty = ds.all (dOk s) := by
    rw [List.isEmpty_map, filter_emp]
  rw [hemp] at hq
  have a0 : evalE (cxt prog k S.length) (.isi .tuple (.var 1)) E0 S = .ok (.bl true) S := by simp [E0, isTy, tyName]
  have a1 : evalE (cxt prog k S.length) (.cmp .ne (.comp [3] (.name 3) (.it (.var 1)) [(.or [(.not (.isi .tuple (.var 3))), (.cmp .ne (.bi .len [(.var 3)]) (.bi .len [(.var 0)]))])] (.lit (.int 1))) (.list [])) E0 S = .ok (.bl (!ds.all (dOk s))) S := by
    rw [ev_cmp, hc]
    simp only [QE.R.bind_okS, ev_list, es_nil, List.length_nil, l0, if_true, hq, QE.R.of_some]
  have hfin : ∀ (b : Bool) (e : Env), finish S.length (.ok (.rt (.bl b), e) S) = .ok (.bl b) S := fun b e => fin_rt S (.bl b) e
  rw [show tabB s p f (.tup ds) = (ds.all (dOk s) && ((ds.all fun d => vrun p [] (its d)) && cntB s p f ds)) from rfl]
  show finish S.length (execSs (cxt prog k S.length) d__law_is_table.body E0 S) = _
  cases hok : ds.all (dOk s) with
  | false =>
    rw [hok] at a1
    refine Eq.trans (congrArg (finish S.length) ?_) (hfin false E0)
    simp only [d__law_is_table]
    rw [xs_cons, x_if, ev_or, eor_cons, ev_not, a0]
    simp only [QE.R.bind_okS, bl_ok, Bool.not_true, Bool.false_eq_true, if_false]
    rw [eor_cons, a1]
    simp only [QE.R.bind_okS, bl_ok, Bool.not_false, if_true, QE.R.calm_okS, xs_cons, x_ret, ev_lit]
  | true =>
    rw [hok] at a1
    have hd2 : ∀ d ∈ ds, DV d ∧ dOk s d = true := fun d hd => ⟨hds d hd, List.all_eq_true.mp hok d hd⟩
    have hcl := left_cells (p := p) (f := f) (cxt prog k S.length) (wipe E0 [7]) (fun x => rfl) (List.range s) S
    have hvl := ev_comp (c := cxt prog k S.length) (env := E0) (S := S) (own := [7]) (tg := .name 7) (src := .it (.var 0)) (ifs := []) (elt := .cell (.bi .list [(.var 7)])) (xs := (List.range s).map fun r => rowV p (f r)) (S1 := S) (by simp [E0, encF, walkOf]) hcl (small_lim (by simp; omega))
    have st1 : execS (cxt prog k S.length) (.asg (.name 2) (.comp [7] (.name 7) (.it (.var 0)) [] (.cell (.bi .list [(.var 7)])))) E0 S = .ok (.nx, IE s p f (.tup ds) S.length none none none none) (S ++ (TBr s p (fun r c => (f r c : Int)) ++ [])) := by
      rw [x_asg, hvl]
      simp only [QE.R.calm_okS, QE.R.bind_okS, bind_name, set_lst, QE.R.of_some, List.length_range, List.append_nil]
      rfl
    obtain ⟨t1, t2⟩ := days_run h k S.length S (Nat.le_refl _) (.tup ds) ds (fun r c => (f r c : Int)) [] none none none none hd2
    have st0 : ∀ r, execSs (cxt prog k S.length) [(.for_ (.name 3) (.it (.var 1)) dayBody2), (.ret (.cmp .eq (.comp [7] (.name 7) (.it (.var 2)) [(.cmp .ne (.compC [8] (.name 8) (.var 7) [(.cmp .ne (.var 8) (.lit (.int 0)))] (.var 8)) (.list []))] (.var 7)) (.list [])))] (IE s p f (.tup ds) S.length none none none none) (S ++ (TBr s p (fun r c => (f r c : Int)) ++ [])) = r →
        execSs (cxt prog k S.length) d__law_is_table.body E0 S = r := fun r hr => by
      refine ss_step (env' := E0) (S' := S) (by
        rw [x_if, ev_or, eor_cons, ev_not, a0]
        simp only [QE.R.bind_okS, bl_ok, Bool.not_true, Bool.false_eq_true, if_false]
        rw [eor_cons, a1]
        simp only [QE.R.bind_okS, bl_ok, Bool.not_true, Bool.false_eq_true, if_false, eor_nil, QE.R.calm_okS, xs_nil]) (ss_step st1 hr)
    have hw : evalSrc (cxt prog k S.length) (.it (.var 1)) (IE s p f (.tup ds) S.length none none none none) (S ++ (TBr s p (fun r c => (f r c : Int)) ++ [])) = .ok ds (S ++ (TBr s p (fun r c => (f r c : Int)) ++ [])) := by simp [IE, walkOf]
    rw [Bool.true_and]
    cases hvr : ds.all fun d => vrun p [] (its d) with
    | false =>
      obtain ⟨e', X, he⟩ := t2 hvr
      refine Eq.trans (congrArg (finish S.length) (st0 _ ?_)) (fin_bl S X false e')
      rw [xs_cons, x_for hw he]
      simp only [QE.R.bind_okS]
    | true =>
      obtain ⟨W', J', y3, y4, y5, y6, hW, he⟩ := t1 hvr
      have hz : zeroB s p W' = cntB s p f ds := by
        unfold zeroB cntB
        have key : ∀ r, r < s → ((List.range p).all fun c => decide (W' r c = 0)) = (List.range p).all fun c => decide ((ds.countP fun d => decide (gd (its d) r = some c)) = f r c) := fun r hr => by
          congr 1
          funext c
          rw [hW r c hr, decide_eq_decide]
          omega
        rw [Bool.eq_iff_iff, List.all_eq_true, List.all_eq_true]
        constructor
        · intro z r hr
          rw [← key r (List.mem_range.mp hr)]
          exact z r hr
        · intro z r hr
          rw [key r (List.mem_range.mp hr)]
          exact z r hr
      have hlast := last_cmp h k S.length S J' W' (.tup ds) y3 y4 y5 y6
      rw [Bool.true_and, ← hz]
      refine Eq.trans (congrArg (finish S.length) (st0 _ (ss_step (x_for hw he) ?_))) (fin_bl S (TBr s p W' ++ J') (zeroB s p W') (IE s p f (.tup ds) S.length y3 y4 y5 y6))
      rw [xs_cons, x_ret, hlast]
      simp only [QE.R.calm_okS, QE.R.bind_okS]
end
end K68

set_option linter.all false
set_option maxRecDepth 10000
namespace K68
open QE
section
variable {s p : Nat} {f : Nat → Nat → Nat} {gs : List (Nat → Option Nat)}
/-! ### the law's load, sameness -/
theorem max2_nv (a b : Nat) (S : Sto) : callBi S .max2 [nv a, nv b] = some (nv (max a b)) := by
  show some (Val.int (if (b : Int) > a then (b : Int) else a)) = some (Val.int ((max a b : Nat) : Int))
  congr 2
  by_cases h : (b : Int) > a
  · rw [if_pos h, Nat.max_eq_right (by omega)]
  · rw [if_neg h, Nat.max_eq_left (by omega)]
theorem ld1 (c : Ctx) (S : Sto) (x3 : Option Val) : ∀ (l : List Nat) (a : Nat) (x2 : Option Val), ∃ y2, forLoop (.name 2) (execSs c [(.asg (.name 1) (.bi .max2 [(.var 1), (.bi .sum [(.var 2)])]))]) (l.map fun r => rowV p (f r)) [some (encF s p f), some (nv a), x2, x3] S =
    .ok (.nx, [some (encF s p f), some (nv ((l.map (rS p f)).foldl max a)), y2, x3]) S
  | [], a, x2 => ⟨x2, rfl⟩
  | r :: l, a, x2 => by
    obtain ⟨y2, ih⟩ := ld1 c S x3 l (max a (rS p f r)) (some (rowV p (f r)))
    refine ⟨y2, ?_⟩
    simp only [List.map_cons, forLoop, bind_name, set_rowV, List.set_cons_succ, List.set_cons_zero, xs_cons, xs_nil, x_asg, ev_bi, es_cons, es_nil, ev_var, List.getElem?_cons_succ, List.getElem?_cons_zero, QE.R.bind_okS, set_nv, sum_rowV, QE.R.of_some, List.foldl_cons]
    rw [show nv (sumN p (f r)) = nv (rS p f r) from rfl, max2_nv]
    simp only [QE.R.of_some, QE.R.calm_okS, QE.R.bind_okS, set_nv, ih]
theorem ld2 (hs : s ≤ 10) (c : Ctx) (S : Sto) : ∀ (l : List Nat) (a : Nat) (x2 x3 : Option Val), (∀ q ∈ l, q < p) → ∃ y2 y3, forLoop (.name 3) (execSs c [(.asg (.name 1) (.bi .max2 [(.var 1), (.bi .sum [(.comp [2] (.name 2) (.it (.var 0)) [] (.idx (.var 2) (.var 3)))])]))]) (l.map nv) [some (encF s p f), some (nv a), x2, x3] S =
    .ok (.nx, [some (encF s p f), some (nv ((l.map (cS s f)).foldl max a)), y2, y3]) S
  | [], a, x2, x3, _ => ⟨x2, x3, rfl⟩
  | q :: l, a, x2, x3, hl => by
    obtain ⟨y2, y3, ih⟩ := ld2 hs c S l (max a (cS s f q)) x2 (some (nv q)) fun x hx => hl x (List.mem_cons_of_mem _ hx)
    refine ⟨y2, y3, ?_⟩
    have hq := hl q (by simp)
    have hv : evalE c (.comp [2] (.name 2) (.it (.var 0)) [] (.idx (.var 2) (.var 3))) [some (encF s p f), some (nv a), x2, some (nv q)] S = .ok (.lst true ((List.range s).map fun r => nv (f r q))) S :=
      ev_compc (fun r => rowV p (f r)) (fun r => nv (f r q)) (List.range s) (walk_enc _ _ _ (by simp)) (small_lim (by simp; omega)) (fun r hr => ⟨[some (encF s p f), some (nv a), some (rowV p (f r)), some (nv q)], by simp [wipe], by simp [it_row' hq]⟩) (fun _ => rfl)
    simp only [List.map_cons, forLoop, bind_name, set_nv, List.set_cons_succ, List.set_cons_zero, xs_cons, xs_nil, x_asg, ev_bi, es_cons, es_nil, ev_var, List.getElem?_cons_succ, List.getElem?_cons_zero, QE.R.bind_okS, hv, set_lst, sum_lst, QE.R.of_some, List.foldl_cons]
    rw [show nv (sumN s fun r => f r q) = nv (cS s f q) from rfl, max2_nv]
    simp only [QE.R.of_some, QE.R.calm_okS, QE.R.bind_okS, set_nv, ih]
theorem loadL (h : VF s p f) (k : Nat) (S : Sto) : callFn prog (k + 1) 27 [encF s p f] S = .ok (nv (load s p f)) S := by
  have hs1 := h.s1
  have hs2 := h.s2
  have hp2 := h.p2
  obtain ⟨y2, l1⟩ := ld1 (s := s) (p := p) (f := f) (cxt prog k S.length) S none (List.range s) 0 none
  obtain ⟨z2, z3, l2⟩ := ld2 (s := s) (p := p) (f := f) hs2 (cxt prog k S.length) S (List.range p) (((List.range s).map (rS p f)).foldl max 0) y2 none fun q hq => List.mem_range.mp hq
  rw [run_fn (d := d__law_load) rfl rfl]
  have e : load s p f = ((List.range p).map (cS s f)).foldl max (((List.range s).map (rS p f)).foldl max 0) := by
    unfold load mx
    rw [List.foldl_append]
  rw [e]
  refine Eq.trans (congrArg (finish S.length) ?_) (fin_rt S (nv (((List.range p).map (cS s f)).foldl max (((List.range s).map (rS p f)).foldl max 0))) [some (encF s p f), some (nv (((List.range p).map (cS s f)).foldl max (((List.range s).map (rS p f)).foldl max 0))), z2, z3])
  refine ss_step (env' := [some (encF s p f), some (nv 0), none, none]) (S' := S) (by
    show execS _ _ [some (encF s p f), none, none, none] S = _
    simp only [x_asg, ev_lit, QE.R.calm_okS, QE.R.bind_okS, bind_name, set_int, QE.R.of_some, List.set_cons_succ, List.set_cons_zero]
    rfl) ?_
  refine ss_step (x_for (xs := (List.range s).map fun r => rowV p (f r)) (S1 := S) (by simp [encF, walkOf]) l1) ?_
  refine ss_step (x_for (xs := (List.range p).map nv) (S1 := S) (by
    simp only [sr_1, ev_bi, es_cons, es_nil, ev_idx, ev_var, ev_lit, List.getElem?_cons_zero, QE.R.bind_okS, it_enc0 (show 0 < s by omega), QE.R.of_some, set_rowV, len_rowV, int_nv]
    exact rng_ok S p (by omega)) l2) ?_
  simp only [xs_cons, x_ret, ev_var, List.getElem?_cons_succ, List.getElem?_cons_zero, QE.R.calm_okS, QE.R.bind_okS]
theorem sm_int (k : Nat) (i : Int) (S : Sto) : callFn prog (k + 1) 25 [.int i, .int i] S = .ok (.bl true) S := by
  rw [run_fn (d := d__law_same) rfl rfl]
  have e : QE.cmp S .is_ (.int i) .non = some false := rfl
  have e2 : QE.cmp S .eq (.int i) (.int i) = some true := by simp [QE.cmp, eqVal, res, Val.chk, Val.eqv]
  simp [d__law_same, isTy, tyName, e, callBi, e2]
theorem sm_non (k : Nat) (S : Sto) : callFn prog (k + 1) 25 [.non, .non] S = .ok (.bl true) S := by
  rw [run_fn (d := d__law_same) rfl rfl]
  have e : QE.cmp S .is_ .non .non = some true := rfl
  simp [d__law_same, isTy, tyName, isNon, e]
theorem sm_bl (k : Nat) (b : Bool) (S : Sto) : callFn prog (k + 1) 25 [.bl b, .bl b] S = .ok (.bl true) S := by
  rw [run_fn (d := d__law_same) rfl rfl]
  have e : QE.cmp S .is_ (.bl b) .non = some false := rfl
  have e1 : QE.cmp S .is_ (.bl true) (.bl true) = some true := rfl
  have e2 : QE.cmp S .is_ (.bl false) (.bl false) = some true := rfl
  cases b <;> simp [d__law_same, isTy, tyName, isNon, e, e1, e2]
theorem sm_tup (k : Nat) (S : Sto) (xs : List Val) (hl : xs.length ≤ 1000) (hx : ∀ x ∈ xs, callFn prog (k + 1) 25 [x, x] S = .ok (.bl true) S ∧ x.settle = x) : callFn prog (k + 2) 25 [.tup xs, .tup xs] S = .ok (.bl true) S := by
  rw [run_fn (d := d__law_same) rfl rfl]
  have t : isTy S .tuple (.tup xs) = some true := rfl
  have c2 : callBi S .len [.tup xs] = some (nv xs.length) := rfl
  have c1 : QE.cmp S .ne (nv xs.length) (nv xs.length) = some false := by
    have := eq_nv S xs.length xs.length
    simp only [QE.cmp] at this
    simp only [QE.cmp, this, nt]
    simp
  have a1 : evalE (cxt prog (k + 1) S.length) (.bi .all [(.comp [2] (.name 2) (.rng1 (.bi .len [(.var 1)])) [] (.call 25 [(.idx (.var 0) (.var 2)), (.idx (.var 1) (.var 2))]))]) [some (.tup xs), some (.tup xs), none] S = .ok (.bl true) S := by
    rw [ev_allc nv (fun _ => true) (List.range xs.length) (by
      simp only [sr_1, ev_bi, es_cons, es_nil, ev_var, List.getElem?_cons_succ, List.getElem?_cons_zero, QE.R.bind_okS, set_tup, c2, QE.R.of_some, int_nv]
      exact rng_ok S _ (by omega)) (small_lim (by simp; omega)) fun i hi => ⟨[some (.tup xs), some (.tup xs), some (nv i)], by simp [wipe], by
      have hlt := List.mem_range.mp hi
      have it : item S (.tup xs) (nv i) = some xs[i] := atI_nat _ (List.getElem?_eq_getElem hlt)
      obtain ⟨q1, q2⟩ := hx xs[i] (List.getElem_mem hlt)
      simp only [ev_call, es_cons, es_nil, ev_idx, ev_var, List.getElem?_cons_succ, List.getElem?_cons_zero, QE.R.bind_okS, it, QE.R.of_some, q2, cxt_call, q1]⟩]
    simp
  show finish S.length (execSs (cxt prog (k + 1) S.length) d__law_same.body [some (.tup xs), some (.tup xs), none] S) = _
  simp only [d__law_same]
  rw [xs_cons, x_if, ev_isi, ev_var]
  simp only [List.getElem?_cons_succ, List.getElem?_cons_zero, QE.R.bind_okS, t, QE.R.of_some, QE.R.calm_okS, bl_ok, if_true]
  have st : execSs (cxt prog (k + 1) S.length) [(.if_ (.or [(.not (.isi .tuple (.var 0))), (.cmp .ne (.bi .len [(.var 0)]) (.bi .len [(.var 1)]))]) [(.ret (.lit (.bl false)))] []), (.ret (.bi .all [(.comp [2] (.name 2) (.rng1 (.bi .len [(.var 1)])) [] (.call 25 [(.idx (.var 0) (.var 2)), (.idx (.var 1) (.var 2))]))]))] [some (.tup xs), some (.tup xs), none] S = .ok (.rt (.bl true), [some (.tup xs), some (.tup xs), none]) S := by
    refine ss_step (env' := [some (.tup xs), some (.tup xs), none]) (S' := S) (by
      simp only [x_if, ev_or, eor_cons, eor_nil, ev_not, ev_isi, ev_cmp, ev_bi, es_cons, es_nil, ev_var, List.getElem?_cons_succ, List.getElem?_cons_zero, QE.R.bind_okS, t, QE.R.of_some, bl_ok, Bool.not_true, Bool.false_eq_true, if_false, set_tup, c2, c1, QE.R.calm_okS, xs_nil]) ?_
    rw [xs_cons, x_ret, a1]
    simp only [QE.R.calm_okS, QE.R.bind_okS]
  rw [st]
  simp only [QE.R.bind_okS, fin_rt]
/-! ### who is lent a piece -/
def lentG (ys : List Val) (c : Nat) : Val := if (ys.any fun y => y.eqv (nv c)) then .int ((indexOf (nv c) ys 0).getD 0 : Nat) else .non
theorem lentG_st (ys : List Val) (c : Nat) : (lentG ys c).settle = lentG ys c := by
  unfold lentG
  split <;> rfl
theorem lent_elt {ys : List Val} (hfl : ys.all Val.flat = true) (c : Ctx) (env : Env) (S : Sto) {ed ec : E} {q : Nat} (h1 : evalE c ed env S = .ok (.ptup ys) S) (h2 : evalE c ec env S = .ok (nv q) S) :
    evalE c (.ite (.cmp .in_ ec ed) (.meth .tindex ed ec) (.lit .non)) env S = .ok (lentG ys q) S := by
  have c1 : QE.cmp S .in_ (nv q) (.ptup ys) = some (ys.any fun y => y.eqv (nv q)) := hasFlat_of (x := nv q) (ys := ys) rfl hfl
  unfold lentG
  cases ha : (ys.any fun y => y.eqv (nv q)) with
  | false =>
    rw [ha] at c1
    simp only [ev_ite, ev_cmp, h1, h2, QE.R.bind_okS, c1, QE.R.of_some, bl_ok, Bool.false_eq_true, if_false, ev_lit]
  | true =>
    rw [ha] at c1
    obtain ⟨n, hn⟩ := index_some 0 ha
    have c2 : callMe S .tindex (.ptup ys) [nv q] = some (.int n) := flatIdx_of (x := nv q) (ys := ys) rfl hfl hn
    have c3 : recOf S .tindex (.ptup ys) = some ys := rfl
    simp only [ev_ite, ev_cmp, ev_meth, h1, h2, QE.R.bind_okS, c1, c3, set_nv, c2, QE.R.of_some, bl_ok, if_true, hn]
    rfl
def ysD (s : Nat) (g : Nat → Option Nat) : List Val := (List.range s).map fun r => ov (g r)
theorem ysD_flat (s : Nat) (g : Nat → Option Nat) : (ysD s g).all Val.flat = true := by simp [ysD, ov_flat]
theorem o21v (h : VF s p f) (ht : FT s p f gs) {d : Nat} (hd : d < gs.length) (k : Nat) (S : Sto) : callFn prog (k + 5) 21 [encF s p f, valT s gs, nv d] S = .ok (.tup ((List.range p).map (lentG (ysD s gs[d])))) S := by
  have hs1 := h.s1
  have hp2 := h.p2
  have i1 : item S (valT s gs) (nv d) = some (.ptup (ysD s gs[d])) := by
    show itemOf _ (.int (d : Int)) = _
    exact atI_nat _ (by simp [hd, valD, ysD])
  have a1 : evalE (cxt prog (k + 4) S.length) (.comp [3] (.name 3) (.rng1 (.bi .len [(.idx (.var 0) (.lit (.int 0)))])) [] (.ite (.cmp .in_ (.var 3) (.idx (.var 1) (.var 2))) (.meth .tindex (.idx (.var 1) (.var 2)) (.var 3)) (.lit .non))) [some (encF s p f), some (valT s gs), some (nv d), none] S = .ok (.lst true ((List.range p).map (lentG (ysD s gs[d])))) S :=
    ev_compc nv (lentG (ysD s gs[d])) (List.range p) (by
      simp only [sr_1, ev_bi, es_cons, es_nil, ev_idx, ev_var, ev_lit, List.getElem?_cons_zero, QE.R.bind_okS, it_enc0 (show 0 < s by omega), QE.R.of_some, set_rowV, len_rowV, int_nv]
      exact rng_ok S p (by omega)) (small_lim (by simp; omega)) (fun c hc => ⟨[some (encF s p f), some (valT s gs), some (nv d), some (nv c)], by simp [wipe], lent_elt (ysD_flat s _) _ _ S (by
        simp only [ev_idx, ev_var, List.getElem?_cons_succ, List.getElem?_cons_zero, QE.R.bind_okS, i1, QE.R.of_some]) (by simp)⟩) (lentG_st _)
  rw [run_fn (d := d_lent_on) rfl rfl]
  have hf := fits_tab h ht (k + 1) S
  have ct : ∀ L : List Val, callBi S .tuple [.lst false L] = some (.tup L) := fun L => rfl
  show finish S.length (execSs (cxt prog (k + 4) S.length) d_lent_on.body [some (encF s p f), some (valT s gs), some (nv d), none] S) = _
  simp only [d_lent_on, xs_cons, xs_nil, x_xcall, eX_call, es_cons, es_nil, ev_var, List.getElem?_cons_succ, List.getElem?_cons_zero, QE.R.bind_okS, set_encF, set_valT, set_nv, QE.R.calm_okS, cxt_call, need h k S, x_if, ev_not, ev_call, hf, bl_ok, Bool.not_true, Bool.false_eq_true, if_false, ev_lit, ev_bin, ev_bi, len_tab, QE.R.of_some, sub_one, set_int, in_rng hd, x_ret, a1, set_lst, ct, fin_rt]
theorem o18g (h : VF s p f) {v : Val} (hv : TV v) (k : Nat) (S : Sto) : callFn prog (k + 5) 18 [encF s p f, v] S = .ok (.bl (tabB s p f v)) S := by
  rw [run_fn (d := d_is_day_table) rfl rfl]
  simp [d_is_day_table, need h k S, fits_gen h hv, hv.1]
end
end K68

set_option linter.all false
set_option maxRecDepth 10000
namespace K68
open QE
section
variable {s p : Nat} {f : Nat → Nat → Nat}
/-! ### bars -/
def sS : Val := .str [115, 99, 104, 111, 108, 97, 114]
def sP : Val := .str [112, 105, 101, 99, 101]
def encQ (q : Bool × Nat) : Val := .tup [if q.1 then sS else sP, nv q.2]
def ldQ (s p : Nat) (f : Nat → Nat → Nat) (q : Bool × Nat) : Nat := if q.1 then rS p f q.2 else cS s f q.2
def rk (s p : Nat) : List (Bool × Nat) := (List.range s).map (fun i => (true, i)) ++ (List.range p).map fun i => (false, i)
theorem rk_mem {s p : Nat} {q : Bool × Nat} (h : q ∈ rk s p) : (q.1 = true ∧ q.2 < s) ∨ (q.1 = false ∧ q.2 < p) := by
  rcases List.mem_append.mp h with h | h
  · obtain ⟨i, hi, rfl⟩ := List.mem_map.mp h
    exact .inl ⟨rfl, List.mem_range.mp hi⟩
  · obtain ⟨i, hi, rfl⟩ := List.mem_map.mp h
    exact .inr ⟨rfl, List.mem_range.mp hi⟩
theorem rk_len (s p : Nat) : (rk s p).length = s + p := by simp [rk]
@[simp] theorem set_encQ (q : Bool × Nat) : (encQ q).settle = encQ q := by exact id rfl
theorem fbar (h : VF s p f) {q : Bool × Nat} (hq : q ∈ rk s p) (n : Int) (k : Nat) (S : Sto) : callFn prog (k + 3) 12 [encF s p f, .int n, encQ q] S = .ok (.bl (decide (n < ldQ s p f q))) S := by
  have hs1 := h.s1
  obtain ⟨b, i⟩ := q
  rcases rk_mem hq with ⟨hb, hi⟩ | ⟨hb, hi⟩
  · simp only at hb hi
    subst hb
    rw [run_fn (d := d_fits_bar) rfl rfl]
    have t : callFn prog (k + 2) 2 [encQ (true, i), .int 2, .int 2] S = .ok (.bl true) S := by
      unfold encQ
      rw [tu_tup]
      simp
    have i0 : item S (encQ (true, i)) (.int 0) = some sS := by simp [encQ, item, itemOf, atI, ixN]
    have i1 : item S (encQ (true, i)) (.int 1) = some (nv i) := by simp [encQ, item, itemOf, atI, ixN]
    have c1 : QE.cmp S .nin sS (.tup [.str [115, 99, 104, 111, 108, 97, 114], .str [112, 105, 101, 99, 101]]) = some false := rfl
    have c2 : QE.cmp S .eq sS (.str [115, 99, 104, 111, 108, 97, 114]) = some true := by simp [QE.cmp, eqVal, res, sS, Val.chk, Val.eqv]
    have c3 : isTy S .str sS = some true := rfl
    have c4 : QE.cmp S .gt (nv (sumN p (f i))) (.int n) = some (decide (n < rS p f i)) := rfl
    simp [d_fits_bar, t, i0, i1, c1, c2, c3, len_enc, sub_one, in_rng hi, it_enc hi, sum_rowV, c4, lim, ldQ]
  · simp only at hb hi
    subst hb
    rw [run_fn (d := d_fits_bar) rfl rfl]
    have t : callFn prog (k + 2) 2 [encQ (false, i), .int 2, .int 2] S = .ok (.bl true) S := by
      unfold encQ
      rw [tu_tup]
      simp
    have i0 : item S (encQ (false, i)) (.int 0) = some sP := by simp [encQ, item, itemOf, atI, ixN]
    have i1 : item S (encQ (false, i)) (.int 1) = some (nv i) := by simp [encQ, item, itemOf, atI, ixN]
    have c1 : QE.cmp S .nin sP (.tup [.str [115, 99, 104, 111, 108, 97, 114], .str [112, 105, 101, 99, 101]]) = some false := rfl
    have c2 : QE.cmp S .eq sP (.str [115, 99, 104, 111, 108, 97, 114]) = some false := by simp [QE.cmp, eqVal, res, sP, Val.chk, Val.eqv]
    have c3 : isTy S .str sP = some true := rfl
    have c4 : QE.cmp S .gt (nv (sumN s fun r => f r i)) (.int n) = some (decide (n < cS s f i)) := rfl
    have hc := col (f := f) h.s2 hi (k + 1) S
    simp [d_fits_bar, t, i0, i1, c1, c2, c3, len_rowV, it_enc0 (show 0 < s by omega), sub_one, in_rng hi, hc, sum_lst, c4, lim, ldQ]
theorem numOk {n : Int} (h0 : 0 ≤ n) (h1 : n ≤ 1000) (k : Nat) (S : Sto) : callFn prog (k + 2) 1 [.int n, .int 0, .int 1000] S = .ok (.bl true) S := by
  rw [fw_int]
  simp [h0, h1]
theorem isbar (h : VF s p f) {q : Bool × Nat} (hq : q ∈ rk s p) {n : Int} (h0 : 0 ≤ n) (h1 : n ≤ 1000) (k : Nat) (S : Sto) : callFn prog (k + 5) 20 [encF s p f, .int n, encQ q] S = .ok (.bl (decide (n < ldQ s p f q))) S := by
  rw [run_fn (d := d_is_bar_to) rfl rfl]
  have e := fbar h hq n (k + 1) S
  simp [d_is_bar_to, need h k S, numOk h0 h1, e]
/-- the rows of scholars and pieces -/
theorem rows_ev (hs : s ≤ 10) (hp : p ≤ 10) (c : Ctx) (env : Env) (S : Sto) {es ep : E} (i1 : Nat) (h1 : evalSrc c (.rng1 es) env S = .ok ((List.range s).map nv) S) (h2 : evalSrc c (.rng1 ep) env S = .ok ((List.range p).map nv) S) (hi : ∀ x, ((wipe env [i1]).set i1 (some x))[i1]? = some (some x)) :
    evalE c (.bin .add (.comp [i1] (.name i1) (.rng1 es) [] (.tup [(.lit (.str [115, 99, 104, 111, 108, 97, 114])), (.var i1)])) (.comp [i1] (.name i1) (.rng1 ep) [] (.tup [(.lit (.str [112, 105, 101, 99, 101])), (.var i1)]))) env S = .ok (.lst true ((rk s p).map encQ)) S := by
  have l2 : (2 : Nat) ≤ lim := by simp [lim]
  have el : ∀ (x : Nat) (w : Val), w.settle = w → evalE c (.tup [(.lit w), (.var i1)]) ((wipe env [i1]).set i1 (some (nv x))) S = .ok (.tup [w, nv x]) S := fun x w hw => by
    simp only [ev_tup, es_cons, es_nil, ev_lit, ev_var, hi, QE.R.bind_okS, hw, set_nv, List.length_cons, List.length_nil, Nat.zero_add, Nat.reduceAdd, l2, if_true]
  have a1 := ev_compc (c := c) (env := env) (S := S) (own := [i1]) (tg := .name i1) (src := .rng1 es) (elt := .tup [(.lit (.str [115, 99, 104, 111, 108, 97, 114])), (.var i1)]) nv (fun i => encQ (true, i)) (List.range s) h1 (small_lim (by simp; omega)) (fun x _ => ⟨_, by rw [bind_name, set_nv], el x sS rfl⟩) (fun _ => rfl)
  have a2 := ev_compc (c := c) (env := env) (S := S) (own := [i1]) (tg := .name i1) (src := .rng1 ep) (elt := .tup [(.lit (.str [112, 105, 101, 99, 101])), (.var i1)]) nv (fun i => encQ (false, i)) (List.range p) h2 (small_lim (by simp; omega)) (fun x _ => ⟨_, by rw [bind_name, set_nv], el x sP rfl⟩) (fun _ => rfl)
  rw [ev_bin, a1]
  simp only [QE.R.bind_okS]
  rw [a2]
  simp only [QE.R.bind_okS, QE.bin, addV, asList]
  rw [if_pos (small_lim (by simp; omega))]
  simp only [QE.R.of_some, rk, List.map_append, List.map_map]
  rfl
def tolV (s p : Nat) (f : Nat → Nat → Nat) (n : Int) : Val := match (rk s p).filter (fun q => decide (n < ldQ s p f q)) with
  | [] => .non
  | q :: _ => encQ q
theorem ne_lists (T : Sto) (L : List Val) (h : Val.chkL 63 L = true) : QE.cmp T .ne (.lst false L) (.lst true []) = some (!L.isEmpty) := by
  simp only [QE.cmp, eqVal, res, Val.chk, h, Val.chkL, Bool.and_self, if_true, nt]
  cases L with
  | nil => simp [Val.eqv, Val.eqvL]
  | cons _ _ => simp [Val.eqv, Val.eqvL]
theorem chk_encQ : ∀ l : List (Bool × Nat), Val.chkL 63 (l.map encQ) = true
  | [] => by simp [Val.chkL]
  | q :: l => by
    have : (encQ q).chk 63 = true := by
      obtain ⟨b, i⟩ := q
      cases b <;> simp [encQ, sS, sP, nv, Val.chk, Val.chkL]
    simp only [List.map_cons, Val.chkL, this, chk_encQ l, Bool.and_self]
theorem barto (h : VF s p f) {n : Int} (h0 : 0 ≤ n) (h1 : n ≤ 1000) (k : Nat) (S : Sto) : callFn prog (k + 5) 19 [encF s p f, .int n] S = .ok (tolV s p f n) S := by
  have hs1 := h.s1
  have hs2 := h.s2
  have hp2 := h.p2
  rw [run_fn (d := d_bar_to) rfl rfl]
  let E : Option Val → Option Val → Env := fun x2 x3 => [some (encF s p f), some (.int n), x2, x3, none, none]
  have a1 := rows_ev (s := s) (p := p) hs2 hp2 (cxt prog (k + 4) S.length) (E none none) S (es := .bi .len [(.var 0)]) (ep := .bi .len [(.idx (.var 0) (.lit (.int 0)))]) 5 (by
    simp only [E, sr_1, ev_bi, es_cons, es_nil, ev_var, List.getElem?_cons_zero, QE.R.bind_okS, set_encF, len_enc, QE.R.of_some, int_nv]
    exact rng_ok S s (by omega)) (by
    simp only [E, sr_1, ev_bi, es_cons, es_nil, ev_idx, ev_var, ev_lit, List.getElem?_cons_zero, QE.R.bind_okS, it_enc0 (show 0 < s by omega), QE.R.of_some, set_rowV, len_rowV, int_nv]
    exact rng_ok S p (by omega)) (fun x => rfl)
  let L := (rk s p).map encQ
  have hr := comp_run (tg := .name 4) (test := evalAnd (cxt prog (k + 4) S.length) [(.call 12 [(.var 0), (.var 1), (.var 4)])]) (elt := evalE (cxt prog (k + 4) S.length) (.var 4)) (env := wipe (E (some (.lst false L)) none) [4]) (S := S) encQ (fun q => decide (n < ldQ s p f q)) encQ (rk s p) fun q hq =>
    ⟨[some (encF s p f), some (.int n), some (.lst false L), none, some (encQ q), none], by simp [wipe, E], by
      have e := fbar h hq n (k + 1) S
      simp only [ea_cons, ea_nil, ev_call, es_cons, es_nil, ev_var, List.getElem?_cons_succ, List.getElem?_cons_zero, QE.R.bind_okS, set_encF, set_int, set_encQ, cxt_call]
      rw [show callFn prog (k + 4) 12 [encF s p f, .int n, encQ q] S = .ok (.bl (decide (n < ldQ s p f q))) S from e]
      simp only [QE.R.bind_okS, bl_ok]
      cases decide (n < ldQ s p f q) <;> rfl, fun _ => by simp⟩
  have hst : (fun q => (encQ q).settle) = encQ := funext fun q => set_encQ q
  have hr' : compLoop (.name 4) (evalAnd (cxt prog (k + 4) S.length) [(.call 12 [(.var 0), (.var 1), (.var 4)])]) (evalE (cxt prog (k + 4) S.length) (.var 4)) (wipe (E (some (.lst false L)) none) [4]) L S = .ok (((rk s p).filter fun q => decide (n < ldQ s p f q)).map encQ) S := by rw [hr, hst]
  have hv := ev_comp (c := cxt prog (k + 4) S.length) (env := E (some (.lst false L)) none) (S := S) (own := [4]) (tg := .name 4) (src := .it (.var 2)) (ifs := [(.call 12 [(.var 0), (.var 1), (.var 4)])]) (elt := .var 4) (xs := L) (S1 := S) (by simp [E, walkOf]) hr' (by
    rw [List.length_map]
    exact Nat.le_trans (List.length_filter_le _ _) (small_lim (by rw [rk_len]; omega)))
  have hq := ne_lists S _ (chk_encQ ((rk s p).filter fun q => decide (n < ldQ s p f q)))
  have l0 : (0 : Nat) ≤ lim := Nat.zero_le _
  refine Eq.trans (congrArg (finish S.length) ?_) (fin_rt S (tolV s p f n) (E (some (.lst false L)) (some (.lst false (((rk s p).filter fun q => decide (n < ldQ s p f q)).map encQ)))))
  refine ss_step (env' := E none none) (S' := S) (by
    show execS _ _ (E none none) S = _
    simp only [E, x_xcall, eX_call, es_cons, es_nil, ev_var, List.getElem?_cons_zero, QE.R.bind_okS, set_encF, QE.R.calm_okS, cxt_call, need h k S]) ?_
  refine ss_step (env' := E none none) (S' := S) (by
    simp only [E, x_if, ev_not, ev_call, es_cons, es_nil, ev_var, ev_lit, List.getElem?_cons_succ, List.getElem?_cons_zero, QE.R.bind_okS, set_int, cxt_call, numOk h0 h1, bl_ok, Bool.not_true, QE.R.calm_okS, Bool.false_eq_true, if_false, xs_nil]) ?_
  refine ss_step (env' := E (some (.lst false L)) none) (S' := S) (by
    rw [x_asg, a1]
    simp only [QE.R.calm_okS, QE.R.bind_okS, bind_name, set_lst, QE.R.of_some, E, List.set_cons_succ, List.set_cons_zero, L]) ?_
  refine ss_step (env' := E (some (.lst false L)) (some (.lst false (((rk s p).filter fun q => decide (n < ldQ s p f q)).map encQ)))) (S' := S) (by
    rw [x_asg, hv]
    simp only [QE.R.calm_okS, QE.R.bind_okS, bind_name, set_lst, QE.R.of_some, E, List.set_cons_succ, List.set_cons_zero]) ?_
  simp only [xs_cons, xs_nil, x_ret, ev_ite, ev_cmp, ev_var, ev_list, es_nil, E, List.getElem?_cons_succ, List.getElem?_cons_zero, QE.R.bind_okS, List.length_nil, l0, if_true, hq, QE.R.of_some, bl_ok]
  unfold tolV
  cases hf : ((rk s p).filter fun q => decide (n < ldQ s p f q)) with
  | nil => simp [ev_lit]
  | cons q l =>
    have : item S (.lst false ((q :: l).map encQ)) (.int 0) = some (encQ q) := by
      show itemOf _ (.int ((0 : Nat) : Int)) = _
      exact atI_nat _ (by simp)
    have hl : ((q :: l).map encQ).isEmpty = false := rfl
    simp only [hl, Bool.not_false, if_true, ev_idx, ev_var, ev_lit, List.getElem?_cons_succ, List.getElem?_cons_zero, QE.R.bind_okS, this, QE.R.of_some, QE.R.calm_okS]
/-- none is tolV just where the load is within the number -/
theorem told_non (s p : Nat) (f : Nat → Nat → Nat) {n : Int} (h0 : 0 ≤ n) : ((rk s p).filter fun q => decide (n < ldQ s p f q)) = [] ↔ (load s p f : Int) ≤ n := by
  rw [List.filter_eq_nil_iff]
  constructor
  · intro z
    have : load s p f ≤ n.toNat := by
      refine mx_le fun x hx => ?_
      rcases List.mem_append.mp hx with hx | hx
      · obtain ⟨i, hi, rfl⟩ := List.mem_map.mp hx
        have := z (true, i) (List.mem_append_left _ (List.mem_map.mpr ⟨i, hi, rfl⟩))
        simp [ldQ] at this
        omega
      · obtain ⟨i, hi, rfl⟩ := List.mem_map.mp hx
        have := z (false, i) (List.mem_append_right _ (List.mem_map.mpr ⟨i, hi, rfl⟩))
        simp [ldQ] at this
        omega
    omega
  · intro z q hq
    obtain ⟨b, i⟩ := q
    rcases rk_mem hq with ⟨hb, hi⟩ | ⟨hb, hi⟩
    · simp only at hb hi
      subst hb
      have := rS_load (s := s) (p := p) (f := f) hi
      simp [ldQ]
      omega
    · simp only at hb hi
      subst hb
      have := cS_load (s := s) (p := p) (f := f) hi
      simp [ldQ]
      omega
def sB : Val := .str [98, 111, 111, 107]
def oddB (s p : Nat) : List Val := [.non, .tup [], .tup [sS], .tup [sS, nv s], .tup [sP, nv p], .tup [sP, .int (-1)], .tup [sB, .int 0], .lst false [sP, .int 0], .tup [sP, .bl true], .tup [.non, .int 0], .tup [.lst false [sP], .int 0]]
theorem tu_two (a b : Val) (k : Nat) (S : Sto) : callFn prog (k + 1) 2 [.tup [a, b], .int 2, .int 2] S = .ok (.bl true) S := by
  rw [tu_tup]
  simp
theorem odd_bar (h : VF s p f) : ∀ v ∈ oddB s p, v.settle = v ∧ ∀ (n : Int) (k : Nat) (S : Sto), callFn prog (k + 3) 12 [encF s p f, .int n, v] S = .ok (.bl false) S := by
  intro v hv
  have hs1 := h.s1
  have j0 : ∀ (a b : Val) (S : Sto), item S (.tup [a, b]) (.int 0) = some a := fun a b S => by simp [item, itemOf, atI, ixN]
  have j1 : ∀ (a b : Val) (S : Sto), item S (.tup [a, b]) (.int 1) = some b := fun a b S => by simp [item, itemOf, atI, ixN]
  have cS1 : ∀ S : Sto, QE.cmp S .nin sS (.tup [.str [115, 99, 104, 111, 108, 97, 114], .str [112, 105, 101, 99, 101]]) = some false := fun S => rfl
  have cS2 : ∀ S : Sto, QE.cmp S .eq sS (.str [115, 99, 104, 111, 108, 97, 114]) = some true := fun S => by simp [QE.cmp, eqVal, res, sS, Val.chk, Val.eqv]
  have cP1 : ∀ S : Sto, QE.cmp S .nin sP (.tup [.str [115, 99, 104, 111, 108, 97, 114], .str [112, 105, 101, 99, 101]]) = some false := fun S => rfl
  have cP2 : ∀ S : Sto, QE.cmp S .eq sP (.str [115, 99, 104, 111, 108, 97, 114]) = some false := fun S => by simp [QE.cmp, eqVal, res, sP, Val.chk, Val.eqv]
  have cB1 : ∀ S : Sto, QE.cmp S .nin sB (.tup [.str [115, 99, 104, 111, 108, 97, 114], .str [112, 105, 101, 99, 101]]) = some true := fun S => rfl
  have tS : ∀ S : Sto, isTy S .str sS = some true := fun S => rfl
  have tP : ∀ S : Sto, isTy S .str sP = some true := fun S => rfl
  have tB : ∀ S : Sto, isTy S .str sB = some true := fun S => rfl
  have tN : ∀ S : Sto, isTy S .str .non = some false := fun S => rfl
  have tL : ∀ S : Sto, isTy S .str (.lst false [sP]) = some false := fun S => rfl
  have out : ∀ (m k : Nat) (S : Sto), callFn prog (k + 2) 1 [nv m, .int 0, .int ((m : Int) - 1)] S = .ok (.bl false) S := fun m k S => by
    show callFn prog (k + 2) 1 [.int (m : Int), .int 0, .int ((m : Int) - 1)] S = _
    rw [fw_int]
    simp
    omega
  have neg : ∀ (m k : Nat) (S : Sto), callFn prog (k + 2) 1 [.int (-1), .int 0, .int ((m : Int) - 1)] S = .ok (.bl false) S := fun m k S => by
    rw [fw_int]
    simp
  simp only [oddB, List.mem_cons, List.not_mem_nil, or_false] at hv
  rcases hv with rfl | rfl | rfl | rfl | rfl | rfl | rfl | rfl | rfl | rfl | rfl
  · refine ⟨rfl, fun n k S => ?_⟩
    rw [run_fn (d := d_fits_bar) rfl rfl]
    simp [d_fits_bar, tu_not (k := k + 1) (v := .non) (h := rfl)]
  · refine ⟨rfl, fun n k S => ?_⟩
    rw [run_fn (d := d_fits_bar) rfl rfl]
    simp [d_fits_bar, tu_tup]
  · refine ⟨rfl, fun n k S => ?_⟩
    rw [run_fn (d := d_fits_bar) rfl rfl]
    simp [d_fits_bar, tu_tup]
  · refine ⟨rfl, fun n k S => ?_⟩
    rw [run_fn (d := d_fits_bar) rfl rfl]
    simp [d_fits_bar, tu_two, j0, j1, cS1, cS2, tS, len_enc, sub_one, out, lim]
  · refine ⟨rfl, fun n k S => ?_⟩
    rw [run_fn (d := d_fits_bar) rfl rfl]
    simp [d_fits_bar, tu_two, j0, j1, cP1, cP2, tP, len_rowV, it_enc0 (show 0 < s by omega), sub_one, out, lim]
  · refine ⟨rfl, fun n k S => ?_⟩
    rw [run_fn (d := d_fits_bar) rfl rfl]
    simp [d_fits_bar, tu_two, j0, j1, cP1, cP2, tP, len_rowV, it_enc0 (show 0 < s by omega), sub_one, neg, lim]
  · refine ⟨rfl, fun n k S => ?_⟩
    rw [run_fn (d := d_fits_bar) rfl rfl]
    simp [d_fits_bar, tu_two, j0, j1, cB1, tB, lim]
  · refine ⟨rfl, fun n k S => ?_⟩
    rw [run_fn (d := d_fits_bar) rfl rfl]
    simp [d_fits_bar, tu_not (k := k + 1) (v := .lst false [sP, .int 0]) (h := rfl)]
  · refine ⟨rfl, fun n k S => ?_⟩
    rw [run_fn (d := d_fits_bar) rfl rfl]
    simp [d_fits_bar, tu_two, j0, j1, cP1, cP2, tP, len_rowV, it_enc0 (show 0 < s by omega), sub_one, fw_bl, lim]
  · refine ⟨rfl, fun n k S => ?_⟩
    rw [run_fn (d := d_fits_bar) rfl rfl]
    simp [d_fits_bar, tu_two, j0, j1, tN, lim]
  · refine ⟨rfl, fun n k S => ?_⟩
    rw [run_fn (d := d_fits_bar) rfl rfl]
    simp [d_fits_bar, tu_two, j0, j1, tL, lim]
theorem isbar_odd (h : VF s p f) {v : Val} (hv : v ∈ oddB s p) {n : Int} (h0 : 0 ≤ n) (h1 : n ≤ 1000) (k : Nat) (S : Sto) : callFn prog (k + 5) 20 [encF s p f, .int n, v] S = .ok (.bl false) S := by
  rw [run_fn (d := d_is_bar_to) rfl rfl]
  obtain ⟨hs, e⟩ := odd_bar h v hv
  have e := e n (k + 1) S
  simp [d_is_bar_to, need h k S, numOk h0 h1, e, hs]
end
end K68

set_option linter.all false
set_option maxRecDepth 10000
namespace K68
open QE
/-! ### the cup -/
def cup (a c : Int) : Ob := .lst [.int a, .int c]
abbrev st (a c : Int) (R : Sto) : Sto := cup a c :: R
theorem fmod_rng (x m : Int) (h : 0 < m) : 0 ≤ x.fmod m ∧ x.fmod m < m := ⟨Int.fmod_nonneg_of_pos x h, Int.fmod_lt_of_pos x h⟩
theorem small_of {x : Int} (h1 : 0 ≤ x) (h2 : x < 2 ^ 64) : small x = true := by
  unfold small
  simp only [Bool.and_eq_true, decide_eq_true_eq]
  omega
theorem roll (k : Nat) (R : Sto) (a c m : Int) (ha : 0 ≤ a) (hm : 0 < m) (hm2 : m < 1000) : ∃ r a' c' : Int, 0 ≤ r ∧ r < m ∧ 0 ≤ a' ∧ callFn prog (k + 1) 23 [.ref 0, .int m] (st a c R) = .ok (.int r) (st a' c' R) := by
  have hmod : ∀ (x : Int) (S : Sto), QE.bin S .mod (.int x) (.int m) = some (.int (x.fmod m)) := fun x S => by
    simp only [QE.bin, modV]
    rw [if_pos (by omega)]
  have hdiv : ∀ (x : Int) (S : Sto), QE.bin S .fdiv (.int x) (.int m) = some (.int (x.fdiv m)) := fun x S => by
    simp only [QE.bin, fdivV]
    rw [if_pos (by omega)]
  have hit0 : ∀ x y : Int, item (st x y R) (.ref 0) (.int 0) = some (.int x) := fun x y => by simp [cup, item, asList, itemOf, atI, ixN]
  have hit1 : ∀ x y : Int, item (st x y R) (.ref 0) (.int 1) = some (.int y) := fun x y => by simp [cup, item, asList, itemOf, atI, ixN]
  have hset0 : ∀ (n : Nat) (x y z : Int), QE.setIx n (st x y R) (.ref 0) (.int 0) (.int z) = .ok () (st z y R) := fun n x y z => by simp [cup, QE.setIx, ixN, mayPut, Val.low]
  have hset1 : ∀ (n : Nat) (x y z : Int), QE.setIx n (st x y R) (.ref 0) (.int 1) (.int z) = .ok () (st x z R) := fun n x y z => by simp [cup, QE.setIx, ixN, mayPut, Val.low]
  have hlen : ∀ x y : Int, (st x y R).length = (st a c R).length := fun x y => rfl
  by_cases h : 0 < a
  · refine ⟨a.fmod m, a.fdiv m, c, (fmod_rng a m hm).1, (fmod_rng a m hm).2, Int.fdiv_nonneg ha (by omega), ?_⟩
    rw [run_fn (d := d__law_roll) rfl rfl]
    simp [d__law_roll, hit0, hset0, hmod, hdiv, QE.cmp, gtVal, h, callBi, finish]
  · let c1 : Int := (c * 31039 + 8039).fmod 2147483563
    have hc1 := fmod_rng (c * 31039 + 8039) 2147483563 (by omega)
    let d1 : Int := (c1 * (c1 + 311)).fmod 2147483059
    refine ⟨(d1.fdiv 827).fmod m, a, c1, (fmod_rng _ m hm).1, (fmod_rng _ m hm).2, ha, ?_⟩
    rw [run_fn (d := d__law_roll) rfl rfl]
    have sm1 : small 31039 = true := by decide
    have sm3 : small c1 = true := small_of hc1.1 (by have := hc1.2; show c1 < 2 ^ 64; omega)
    have e1 : ∀ S : Sto, QE.bin S .mul (.int c) (.int 31039) = some (.int (c * 31039)) := fun S => by simp [QE.bin, mulV, sm1]
    have e2 : ∀ S : Sto, QE.bin S .add (.int (c * 31039)) (.int 8039) = some (.int (c * 31039 + 8039)) := fun S => rfl
    have e3 : ∀ S : Sto, QE.bin S .mod (.int (c * 31039 + 8039)) (.int 2147483563) = some (.int c1) := fun S => by simp [QE.bin, modV, c1]
    have e4 : ∀ S : Sto, QE.bin S .add (.int c1) (.int 311) = some (.int (c1 + 311)) := fun S => rfl
    have e5 : ∀ S : Sto, QE.bin S .mul (.int c1) (.int (c1 + 311)) = some (.int (c1 * (c1 + 311))) := fun S => by simp [QE.bin, mulV, sm3]
    have e6 : ∀ S : Sto, QE.bin S .mod (.int (c1 * (c1 + 311))) (.int 2147483059) = some (.int d1) := fun S => by simp [QE.bin, modV, d1]
    have e7 : ∀ S : Sto, QE.bin S .fdiv (.int d1) (.int 827) = some (.int (d1.fdiv 827)) := fun S => by simp [QE.bin, fdivV]
    have hint : ∀ (S : Sto) (x : Int), callBi S .int [.int x] = some (.int x) := fun S x => rfl
    simp [d__law_roll, hit0, hit1, hset1, e1, e2, e3, e4, e5, e6, e7, hmod, hint, QE.cmp, gtVal, h, finish]
theorem some_of (k : Nat) (R : Sto) (a c : Int) (ha : 0 ≤ a) (xs : List Val) (h0 : 0 < xs.length) (h1 : xs.length < 1000) : ∃ (v : Val) (a' c' : Int), v ∈ xs ∧ 0 ≤ a' ∧ callFn prog (k + 2) 24 [.ref 0, .lst false xs] (st a c R) = .ok v (st a' c' R) := by
  obtain ⟨r, a', c', h2, h3, h4, h5⟩ := roll k R a c xs.length ha (by omega) (by omega)
  have hlt : r.toNat < xs.length := by omega
  refine ⟨xs[r.toNat], a', c', List.getElem_mem hlt, h4, ?_⟩
  rw [run_fn (d := d__law_some) rfl rfl]
  have hlen : ∀ S, callBi S .len [.lst false xs] = some (.int xs.length) := fun S => by simp [callBi, lenOf, asSeq, asList]
  have hit : ∀ S, item S (.lst false xs) (.int r) = some xs[r.toNat] := fun S => by
    simp only [item, asList, itemOf, atI, ixN]
    rw [if_pos h2, if_pos h3]
    simp [hlt]
  simp [d__law_some, hlen, h5, hit, finish]
/-! ### wants are drawn -/
def cellE : E := .call 24 [(.var 0), (.list [(.lit (.int 0)), (.call 23 [(.var 0), (.bin .add (.var 3) (.lit (.int 1)))])])]
theorem row_comp (k n m : Nat) (R : Sto) (x1 x2 x4 : Option Val) (hm : m ≤ 12) : ∀ (l : List Nat) (a c : Int), 0 ≤ a → ∃ (xs : List Nat) (a' c' : Int), 0 ≤ a' ∧ xs.length = l.length ∧ (∀ x ∈ xs, x ≤ m) ∧
    compLoop (.name 5) (evalAnd (cxt prog (k + 2) n) []) (evalE (cxt prog (k + 2) n) cellE) [some (.ref 0), x1, x2, some (nv m), x4, none] (l.map nv) (st a c R) = .ok (xs.map nv) (st a' c' R)
  | [], a, c, ha => ⟨[], a, c, ha, rfl, by simp, rfl⟩
  | p :: l, a, c, ha => by
    obtain ⟨r, a1, c1, h1, h2, h3, h4⟩ := roll (k + 1) R a c (m + 1) ha (by omega) (by omega)
    obtain ⟨v, a2, c2, h5, h6, h7⟩ := some_of k R a1 c1 h3 [.int 0, .int r] (by simp) (by simp)
    obtain ⟨xs, a', c', g1, g2, g3, g4⟩ := row_comp k n m R x1 x2 x4 hm l a2 c2 h6
    obtain ⟨x, hx, hv⟩ : ∃ x : Nat, x ≤ m ∧ v = nv x := by
      simp only [List.mem_cons, List.not_mem_nil, or_false] at h5
      rcases h5 with e | e
      · exact ⟨0, by omega, e⟩
      · refine ⟨r.toNat, by omega, ?_⟩
        rw [e]
        show Val.int r = Val.int (r.toNat : Int)
        congr 1
        omega
    subst hv
    refine ⟨x :: xs, a', c', g1, by simp [g2], fun y hy => ?_, ?_⟩
    · rcases List.mem_cons.mp hy with e | e
      · rw [e]; exact hx
      · exact g3 y e
    · have ad : ∀ S : Sto, QE.bin S .add (nv m) (.int 1) = some (.int ((m : Int) + 1)) := fun S => rfl
      have l2 : (2 : Nat) ≤ lim := by simp [lim]
      have he : evalE (cxt prog (k + 2) n) cellE [some (.ref 0), x1, x2, some (nv m), x4, some (nv p)] (st a c R) = .ok (nv x) (st a2 c2 R) := by
        simp only [cellE, ev_call, es_cons, es_nil, ev_var, ev_list, ev_lit, ev_bin, List.getElem?_cons_succ, List.getElem?_cons_zero, QE.R.bind_okS, set_ref, set_int, cxt_call, ad, QE.R.of_some, h4, List.length_cons, List.length_nil, Nat.zero_add, l2, if_true, set_lst, h7]
      simp only [List.map_cons, compLoop, bind_name, set_nv, List.set_cons_succ, List.set_cons_zero, ea_nil, QE.R.bind_okS, if_true, he, g4]
def rowE : E := .bi .tuple [(.comp [5] (.name 5) (.rng1 (.var 2)) [] cellE)]
theorem rows_comp (k n m p : Nat) (R : Sto) (x1 : Option Val) (hm : m ≤ 12) (hp : p ≤ 100) : ∀ (l : List Nat) (a c : Int), 0 ≤ a → ∃ (ys : List (List Nat)) (a' c' : Int), 0 ≤ a' ∧ ys.length = l.length ∧ (∀ y ∈ ys, y.length = p ∧ ∀ x ∈ y, x ≤ m) ∧
    compLoop (.name 4) (evalAnd (cxt prog (k + 2) n) []) (evalE (cxt prog (k + 2) n) rowE) [some (.ref 0), x1, some (nv p), some (nv m), none, none] (l.map nv) (st a c R) = .ok (ys.map fun y => .tup (y.map nv)) (st a' c' R)
  | [], a, c, ha => ⟨[], a, c, ha, rfl, by simp, rfl⟩
  | i :: l, a, c, ha => by
    obtain ⟨xs, a1, c1, h1, h2, h3, h4⟩ := row_comp k n m R x1 (some (nv p)) (some (nv i)) hm (List.range p) a c ha
    obtain ⟨ys, a', c', g1, g2, g3, g4⟩ := rows_comp k n m p R x1 hm hp l a1 c1 h1
    refine ⟨xs :: ys, a', c', g1, by simp [g2], fun y hy => ?_, ?_⟩
    · rcases List.mem_cons.mp hy with e | e
      · rw [e]; exact ⟨by simpa using h2, h3⟩
      · exact g3 y e
    · have he : evalE (cxt prog (k + 2) n) rowE [some (.ref 0), x1, some (nv p), some (nv m), some (nv i), none] (st a c R) = .ok (.tup (xs.map nv)) (st a1 c1 R) := by
        have hv := ev_comp (c := cxt prog (k + 2) n) (env := [some (.ref 0), x1, some (nv p), some (nv m), some (nv i), none]) (S := st a c R) (own := [5]) (tg := .name 5) (src := .rng1 (.var 2)) (ifs := []) (elt := cellE) (xs := (List.range p).map nv) (S1 := st a c R) (by
          simp only [sr_1, ev_var, List.getElem?_cons_succ, List.getElem?_cons_zero, QE.R.bind_okS, int_nv]
          exact rng_ok _ p (by omega)) (by simpa [wipe] using h4) (small_lim (by simp at h2; simp; omega))
        simp only [rowE, ev_bi, es_cons, es_nil, hv, QE.R.bind_okS, set_lst]
        rfl
      simp only [List.map_cons, compLoop, bind_name, set_nv, List.set_cons_succ, List.set_cons_zero, ea_nil, QE.R.bind_okS, if_true, he, g4, set_tup]
def fOf (ys : List (List Nat)) : Nat → Nat → Nat := fun r c => ((ys[r]?.getD [])[c]?.getD 0)
theorem enc_of {s p : Nat} {ys : List (List Nat)} (h1 : ys.length = s) (h2 : ∀ y ∈ ys, y.length = p) : (.tup (ys.map fun y => .tup (y.map nv)) : Val) = encF s p (fOf ys) := by
  unfold encF rowV
  congr 1
  apply List.ext_getElem?
  intro i
  rw [List.getElem?_map, List.getElem?_map]
  by_cases hi : i < s
  · have hy : ys[i]? = some ys[i] := List.getElem?_eq_getElem (by omega)
    rw [List.getElem?_range hi, hy]
    simp only [Option.map_some, Option.some.injEq, Val.tup.injEq]
    have hl := h2 ys[i] (List.getElem_mem _)
    apply List.ext_getElem?
    intro j
    rw [List.getElem?_map, List.getElem?_map]
    by_cases hj : j < p
    · have hz : ys[i][j]? = some (ys[i][j]'(by omega)) := List.getElem?_eq_getElem (by omega)
      rw [List.getElem?_range hj, hz]
      simp [fOf, hy, hz]
    · rw [List.getElem?_eq_none (by omega), List.getElem?_eq_none (by simp; omega)]
      rfl
  · rw [List.getElem?_eq_none (by omega), List.getElem?_eq_none (by simp; omega)]
    rfl
theorem draw_wants (k : Nat) (R : Sto) (a c : Int) (ha : 0 ≤ a) {s p m : Nat} (hs1 : 1 ≤ s) (hs2 : s ≤ 10) (hp1 : 1 ≤ p) (hp2 : p ≤ 10) (hm : m ≤ 12) : ∃ (f : Nat → Nat → Nat) (a' c' : Int), VF s p f ∧ 0 ≤ a' ∧ callFn prog (k + 3) 26 [.ref 0, nv s, nv p, nv m] (st a c R) = .ok (encF s p f) (st a' c' R) := by
  obtain ⟨ys, a', c', g1, g2, g3, g4⟩ := rows_comp k (st a c R).length m p R (some (nv s)) hm (by omega) (List.range s) a c ha
  have hl : ys.length = s := by simpa using g2
  refine ⟨fOf ys, a', c', ⟨hs1, hs2, hp1, hp2, fun r c hr hc => ?_⟩, g1, ?_⟩
  · have hy : ys[r]? = some (ys[r]'(by omega)) := List.getElem?_eq_getElem (by omega)
    obtain ⟨q1, q2⟩ := g3 _ (List.getElem_mem (show r < ys.length by omega))
    have hz : (ys[r]'(by omega))[c]? = some ((ys[r]'(by omega))[c]'(by omega)) := List.getElem?_eq_getElem (by omega)
    simp only [fOf, hy, hz, Option.getD_some]
    have := q2 _ (List.getElem_mem (show c < (ys[r]'(by omega)).length by omega))
    omega
  · rw [run_fn (d := d__law_wants) rfl rfl]
    have hv := ev_comp (c := cxt prog (k + 2) (st a c R).length) (env := [some (.ref 0), some (nv s), some (nv p), some (nv m), none, none]) (S := st a c R) (own := [4]) (tg := .name 4) (src := .rng1 (.var 1)) (ifs := []) (elt := rowE) (xs := (List.range s).map nv) (S1 := st a c R) (by
      simp only [sr_1, ev_var, List.getElem?_cons_succ, List.getElem?_cons_zero, QE.R.bind_okS, int_nv]
      exact rng_ok _ s (by omega)) (by simpa [wipe] using g4) (small_lim (by simp; omega))
    rw [← enc_of hl fun y hy => (g3 y hy).1]
    show finish (st a c R).length (execSs (cxt prog (k + 2) (st a c R).length) [(.ret (.bi .tuple [(.comp [4] (.name 4) (.rng1 (.var 1)) [] rowE)]))] [some (.ref 0), some (nv s), some (nv p), some (nv m), none, none] (st a c R)) = _
    simp only [xs_cons, xs_nil, x_ret, ev_bi, es_cons, es_nil, hv, QE.R.bind_okS, set_lst]
    simp [callBi, tupleOf, asSeq, asList, finish]
theorem cu (k : Nat) (v : Val) (ns : List Int) (hl : ns.length ≤ 63) (hv : ∀ S, callBi S .list [v.settle] = some (.lst true (ns.map .int))) : ∃ a c : Int, 0 ≤ a ∧ callFn prog (k + 1) 22 [v] sto0 = .ok (.lst true [.int a, .int c]) sto0 := by
  obtain ⟨z, hz⟩ : ∃ z, ∀ S : Sto, item S (.lst true (ns.map .int ++ [.int 0])) (.int 0) = some (.int z) := by
    cases ns with
    | nil => exact ⟨0, fun S => by simp [item, asList, itemOf, atI, ixN]⟩
    | cons z ns => exact ⟨z, fun S => by
        have hp : (0 : Int) < (ns.length : Int) + 1 + 1 := by omega
        simp [item, asList, itemOf, atI, ixN, hp]⟩
  obtain ⟨n, hn, hab⟩ : ∃ n : Int, 0 ≤ n ∧ ∀ S : Sto, callBi S .abs [.int z] = some (.int n) := ⟨if z < 0 then -z else z, by split <;> omega, fun S => rfl⟩
  have hadd : ∀ S : Sto, QE.bin S .add (.lst false (ns.map .int)) (.lst true [.int 0]) = some (.lst true (ns.map .int ++ [.int 0])) := fun S => by
    have : ns.length + 1 ≤ lim := by simp only [lim]; omega
    simp [QE.bin, addV, asList, this]
  have hadd2 : ∀ S : Sto, QE.bin S .add (.lst true (ns.map .int)) (.lst true [.int 0]) = some (.lst true (ns.map .int ++ [.int 0])) := fun S => by
    have : ns.length + 1 ≤ lim := by simp only [lim]; omega
    simp [QE.bin, addV, asList, this]
  have sm1 : small 331 = true := by decide
  have e0 : ∀ S : Sto, QE.bin S .pow (.int 10) (.int 18) = some (.int (10 ^ 18)) := fun S => by simp [QE.bin, powV]
  have e1 : ∀ S : Sto, QE.bin S .mul (.int n) (.int 331) = some (.int (n * 331)) := fun S => by simp [QE.bin, mulV, sm1]
  have e2 : ∀ S : Sto, QE.bin S .add (.int (n * 331)) (.int 4013) = some (.int (n * 331 + 4013)) := fun S => rfl
  have e3 : ∀ S : Sto, QE.bin S .mod (.int (n * 331 + 4013)) (.int 2077502479) = some (.int ((n * 331 + 4013).fmod 2077502479)) := fun S => by simp [QE.bin, modV]
  have e4 : ∀ (x : Int) (S : Sto), QE.bin S .add (.int x) (.int 229) = some (.int (x + 229)) := fun x S => rfl
  have e5 : ∀ S : Sto, QE.bin S .fdiv (.int n) (.int 109) = some (.int (n.fdiv 109)) := fun S => by simp [QE.bin, fdivV]
  have e6 : ∀ S : Sto, QE.cmp S .ge (.int n) (.int (10 ^ 18)) = some (decide ((10 : Int) ^ 18 ≤ n)) := fun S => rfl
  have hint : ∀ (S : Sto) (x : Int), callBi S .int [.int x] = some (.int x) := fun S x => rfl
  by_cases hge : (10 : Int) ^ 18 ≤ n
  · refine ⟨n.fdiv 109, (n * 331 + 4013).fmod 2077502479 + 229, Int.fdiv_nonneg hn (by omega), ?_⟩
    rw [run_fn (d := d__law_cup) rfl rfl]
    rw [decide_eq_true hge] at e6
    simp only [d__law_cup, xs_cons, x_asg, ev_bi, es_cons, ev_idx, ev_bin, ev_list, es_nil, ev_lit, ev_var]
    simp [hv, hadd2, hz, hab, e0, e1, e2, e3, e4, e5, e6, hint, lim, -Int.reducePow]
  · refine ⟨0, (n * 331 + 4013).fmod 2077502479 + 229, by omega, ?_⟩
    rw [run_fn (d := d__law_cup) rfl rfl]
    rw [decide_eq_false hge] at e6
    simp only [d__law_cup, xs_cons, x_asg, ev_bi, es_cons, ev_idx, ev_bin, ev_list, es_nil, ev_lit, ev_var]
    simp [hv, hadd2, hz, hab, e0, e1, e2, e3, e4, e5, e6, hint, lim, -Int.reducePow]

end K68

set_option linter.all false
set_option maxRecDepth 10000
namespace K68
open QE
/-! ### the law's statements -/
def la0 : Stm := (.asg (.name 1) (.cell (.call 22 [(.var 0)])))
def lb0 : Stm := (.par [3, 4] [(.bin .add (.lit (.int 1)) (.call 23 [(.var 1), (.lit (.int 5))])), (.bin .add (.lit (.int 1)) (.call 23 [(.var 1), (.lit (.int 5))]))])
def lb1 : Stm := (.asg (.name 5) (.call 26 [(.var 1), (.var 3), (.var 4), (.lit (.int 3))]))
def lb2 : Stm := (.asg (.name 6) (.call 27 [(.var 5)]))
def lb3 : Stm := (.asg (.name 7) (.call 17 [(.var 5)]))
def lb4 : Stm := (.if_ (.or [(.cmp .isn (.call 13 [(.var 5)]) (.lit (.bl true))), (.not (.call 25 [(.tup [(.call 16 [(.var 5)]), (.bi .len [(.var 7)])]), (.tup [(.var 6), (.var 6)])])), (.not (.call 28 [(.var 5), (.var 7)]))]) [(.ret (.lit (.bl false)))] [])
def lb5 : Stm := (.if_ (.or [(.cmp .ne (.comp [9] (.name 9) (.rng1 (.var 3)) [] (.call 14 [(.var 5), (.var 9)])) (.comp [19] (.name 19) (.it (.var 5)) [] (.bi .sum [(.var 19)]))), (.cmp .ne (.comp [9] (.name 9) (.rng1 (.var 4)) [] (.call 15 [(.var 5), (.var 9)])) (.comp [9] (.name 9) (.rng1 (.var 4)) [] (.bi .sum [(.comp [19] (.name 19) (.it (.var 5)) [] (.idx (.var 19) (.var 9)))])))]) [(.ret (.lit (.bl false)))] [])
def lb6 : Stm := (.asg (.name 8) (.list [(.var 7), (.rev (.var 7)), (.bin .add (.var 7) (.tup [(.bin .mul (.tup [(.lit .non)]) (.var 3))])), (.bi .list [(.var 7)]), (.lit .non), (.slice (.var 7) (some (.lit (.int 1))) none), (.bin .add (.var 7) (.slice (.var 7) (some (.neg (.lit (.int 1)))) none)), (.tup []), (.bi .tuple [(.comp [11] (.name 11) (.it (.var 7)) [] (.rev (.var 11)))]), (.bi .tuple [(.comp [11] (.name 11) (.it (.var 7)) [] (.bi .list [(.var 11)]))])]))
def lb7 : Stm := (.if_ (.cmp .ne (.var 7) (.tup [])) [(.asg (.tup [(.name 9), (.name 10)]) (.tup [(.call 23 [(.var 1), (.var 6)]), (.call 23 [(.var 1), (.var 3)])])), (.asg (.name 11) (.idx (.var 7) (.var 9))), (.asg (.name 12) (.comp [18] (.name 18) (.it (.tup [(.lit .non), (.var 4), (.neg (.lit (.int 1))), (.lit (.bl true)), (.lit (.str [48])), (.call 23 [(.var 1), (.var 4)])])) [] (.bin .add (.bin .add (.slice (.var 11) none (some (.var 10))) (.tup [(.var 18)])) (.slice (.var 11) (some (.bin .add (.var 10) (.lit (.int 1)))) none)))), (.asg (.name 8) (.bin .add (.var 8) (.comp [13] (.name 13) (.it (.bin .add (.var 12) (.list [(.slice (.var 11) (some (.lit (.int 1))) none), (.bin .add (.var 11) (.tup [(.lit .non)])), (.lit .non)]))) [] (.bin .add (.bin .add (.slice (.var 7) none (some (.var 9))) (.tup [(.var 13)])) (.slice (.var 7) (some (.bin .add (.var 9) (.lit (.int 1)))) none)))))] [])
def lb8 : Stm := (.for_ (.name 13) (.it (.var 8)) [(.if_ (.not (.call 25 [(.call 18 [(.var 5), (.var 13)]), (.call 28 [(.var 5), (.var 13)])])) [(.ret (.lit (.bl false)))] [])])
def lb9 : Stm := (.for_ (.tup [(.name 9), (.name 11)]) (.enum (.var 7)) [(.if_ (.not (.call 25 [(.call 21 [(.var 5), (.var 7), (.var 9)]), (.bi .tuple [(.comp [20] (.name 20) (.rng1 (.var 4)) [] (.ite (.cmp .in_ (.var 20) (.var 11)) (.meth .tindex (.var 11) (.var 20)) (.lit .non)))])])) [(.ret (.lit (.bl false)))] [])])
def lb10 : Stm := (.for_ (.name 14) (.it (.tup [(.lit (.int 0)), (.bin .sub (.var 6) (.lit (.int 1))), (.var 6), (.bin .add (.var 6) (.lit (.int 1))), (.lit (.int 1000))])) [(.if_ (.cmp .lt (.var 14) (.lit (.int 0))) [.cont] []), (.asg (.name 15) (.call 19 [(.var 5), (.var 14)])), (.if_ (.or [(.cmp .ne (.cmp .is_ (.var 15) (.lit .non)) (.cmp .ge (.var 14) (.var 6))), (.and [(.cmp .isn (.var 15) (.lit .non)), (.cmp .isn (.call 20 [(.var 5), (.var 14), (.var 15)]) (.lit (.bl true)))])]) [(.ret (.lit (.bl false)))] []), (.asg (.name 16) (.bin .add (.comp [9] (.name 9) (.rng1 (.var 3)) [] (.tup [(.lit (.str [115, 99, 104, 111, 108, 97, 114])), (.var 9)])) (.comp [9] (.name 9) (.rng1 (.var 4)) [] (.tup [(.lit (.str [112, 105, 101, 99, 101])), (.var 9)])))), (.asg (.name 17) (.bin .add (.comp [19] (.name 19) (.it (.var 5)) [] (.cmp .gt (.bi .sum [(.var 19)]) (.var 14))) (.comp [9] (.name 9) (.rng1 (.var 4)) [] (.cmp .gt (.bi .sum [(.comp [19] (.name 19) (.it (.var 5)) [] (.idx (.var 19) (.var 9)))]) (.var 14))))), (.if_ (.cmp .ne (.comp [19] (.name 19) (.it (.var 16)) [] (.call 20 [(.var 5), (.var 14), (.var 19)])) (.var 17)) [(.ret (.lit (.bl false)))] []), (.for_ (.name 18) (.it (.tup [(.lit .non), (.tup []), (.tup [(.lit (.str [115, 99, 104, 111, 108, 97, 114]))]), (.tup [(.lit (.str [115, 99, 104, 111, 108, 97, 114])), (.var 3)]), (.tup [(.lit (.str [112, 105, 101, 99, 101])), (.var 4)]), (.tup [(.lit (.str [112, 105, 101, 99, 101])), (.neg (.lit (.int 1)))]), (.tup [(.lit (.str [98, 111, 111, 107])), (.lit (.int 0))]), (.list [(.lit (.str [112, 105, 101, 99, 101])), (.lit (.int 0))]), (.tup [(.lit (.str [112, 105, 101, 99, 101])), (.lit (.bl true))]), (.tup [(.lit .non), (.lit (.int 0))]), (.tup [(.list [(.lit (.str [112, 105, 101, 99, 101]))]), (.lit (.int 0))])])) [(.if_ (.cmp .isn (.call 20 [(.var 5), (.var 14), (.var 18)]) (.lit (.bl false))) [(.ret (.lit (.bl false)))] [])])])
def lawBody : List Stm := [lb0, lb1, lb2, lb3, lb4, lb5, lb6, lb7, lb8, lb9, lb10]
def la2 : Stm := (.ret (.lit (.bl true)))
theorem law_body : d_law.body = [la0, .for_ (.name 2) (.rng1 (.lit (.int 3))) lawBody, la2] := rfl
abbrev cx : Ctx := cxt prog 19 0
abbrev S1 (a c : Int) : Sto := st a c []
def en (sv : Val) (x2 x3 x4 x5 x6 x7 x8 x9 x10 x11 x12 x13 x14 x15 x16 x17 x18 x19 x20 : Option Val) : Env := [some sv, some (.ref 0), x2, x3, x4, x5, x6, x7, x8, x9, x10, x11, x12, x13, x14, x15, x16, x17, x18, x19, x20]
theorem mt_ (x : Val) (n : Nat) (h1 : 1 ≤ n) (h2 : n ≤ 1000) (S : Sto) : QE.bin S .mul (.tup [x]) (nv n) = some (.tup (List.replicate n x)) := by
  simp only [QE.bin, mulV, nv]
  rw [if_neg (by simp), if_pos (by simp; omega)]
  simp [rep_one]
theorem ad_ (r : Int) (S : Sto) : QE.bin S .add (.int 1) (.int r) = some (.int (1 + r)) := rfl
theorem ap_ (n : Nat) (S : Sto) : QE.bin S .add (nv n) (.int 1) = some (nv (n + 1)) := rfl
theorem s0 (a c : Int) (ha : 0 ≤ a) : ∃ (s p : Nat) (a' c' : Int), (1 ≤ s ∧ s ≤ 5) ∧ (1 ≤ p ∧ p ≤ 5) ∧ 0 ≤ a' ∧ ∀ (sv : Val) (x2 x3 x4 x5 x6 x7 x8 x9 x10 x11 x12 x13 x14 x15 x16 x17 x18 x19 x20 : Option Val), execS cx lb0 (en sv x2 x3 x4 x5 x6 x7 x8 x9 x10 x11 x12 x13 x14 x15 x16 x17 x18 x19 x20) (S1 a c) = .ok (.nx, en sv x2 (some (nv s)) (some (nv p)) x5 x6 x7 x8 x9 x10 x11 x12 x13 x14 x15 x16 x17 x18 x19 x20) (S1 a' c') := by
  obtain ⟨r, a1, c1, h1, h2, h3, h4⟩ := roll 18 [] a c 5 ha (by omega) (by omega)
  obtain ⟨r', a2, c2, g1, g2, g3, g4⟩ := roll 18 [] a1 c1 5 h3 (by omega) (by omega)
  refine ⟨(1 + r).toNat, (1 + r').toNat, a2, c2, by omega, by omega, g3, fun sv x2 x3 x4 x5 x6 x7 x8 x9 x10 x11 x12 x13 x14 x15 x16 x17 x18 x19 x20 => ?_⟩
  have e1 : nv (1 + r).toNat = .int (1 + r) := by
    show Val.int _ = Val.int _
    congr 1
    omega
  have e2 : nv (1 + r').toNat = .int (1 + r') := by
    show Val.int _ = Val.int _
    congr 1
    omega
  rw [e1, e2]
  simp only [lb0, en, x_par, es_cons, es_nil, ev_bin, ev_lit, ev_call, ev_var, List.getElem?_cons_succ, List.getElem?_cons_zero, QE.R.bind_okS, set_ref, set_int, cxt_call, h4, g4, ad_, QE.R.of_some, QE.R.calm_okS]
  rfl
section
variable {s p : Nat} {f : Nat → Nat → Nat}
theorem s1 (a c : Int) (ha : 0 ≤ a) (hs : 1 ≤ s ∧ s ≤ 5) (hp : 1 ≤ p ∧ p ≤ 5) : ∃ (f : Nat → Nat → Nat) (a' c' : Int), VF s p f ∧ 0 ≤ a' ∧ ∀ (sv : Val) (x2 x5 x6 x7 x8 x9 x10 x11 x12 x13 x14 x15 x16 x17 x18 x19 x20 : Option Val), execS cx lb1 (en sv x2 (some (nv s)) (some (nv p)) x5 x6 x7 x8 x9 x10 x11 x12 x13 x14 x15 x16 x17 x18 x19 x20) (S1 a c) = .ok (.nx, en sv x2 (some (nv s)) (some (nv p)) (some (encF s p f)) x6 x7 x8 x9 x10 x11 x12 x13 x14 x15 x16 x17 x18 x19 x20) (S1 a' c') := by
  obtain ⟨f, a', c', h1, h2, h3⟩ := draw_wants 16 [] a c ha (s := s) (p := p) (m := 3) hs.1 (by omega) hp.1 (by omega) (by omega)
  refine ⟨f, a', c', h1, h2, fun sv x2 x5 x6 x7 x8 x9 x10 x11 x12 x13 x14 x15 x16 x17 x18 x19 x20 => ?_⟩
  have e : (.int 3 : Val) = nv 3 := rfl
  simp only [lb1, en, x_asg, ev_call, es_cons, es_nil, ev_var, ev_lit, List.getElem?_cons_succ, List.getElem?_cons_zero, QE.R.bind_okS, set_ref, set_nv, e, cxt_call, h3, QE.R.calm_okS, bind_name, set_encF, QE.R.of_some, List.set_cons_succ, List.set_cons_zero]
variable (a c : Int) (sv : Val) (x2 x3 x4 x5 x6 x7 x8 x9 x10 x11 x12 x13 x14 x15 x16 x17 x18 x19 x20 : Option Val)
theorem s2 (h : VF s p f) : execS cx lb2 (en sv x2 x3 x4 (some (encF s p f)) x6 x7 x8 x9 x10 x11 x12 x13 x14 x15 x16 x17 x18 x19 x20) (S1 a c) = .ok (.nx, en sv x2 x3 x4 (some (encF s p f)) (some (nv (load s p f))) x7 x8 x9 x10 x11 x12 x13 x14 x15 x16 x17 x18 x19 x20) (S1 a c) := by
  have e := loadL h 18 (S1 a c)
  simp only [lb2, en, x_asg, ev_call, es_cons, es_nil, ev_var, List.getElem?_cons_succ, List.getElem?_cons_zero, QE.R.bind_okS, set_encF, cxt_call, e, QE.R.calm_okS, bind_name, set_nv, QE.R.of_some, List.set_cons_succ, List.set_cons_zero]
theorem s3 (h : VF s p f) (hs : s ≤ 5) (hp : p ≤ 5) : execS cx lb3 (en sv x2 x3 x4 (some (encF s p f)) x6 x7 x8 x9 x10 x11 x12 x13 x14 x15 x16 x17 x18 x19 x20) (S1 a c) = .ok (.nx, en sv x2 x3 x4 (some (encF s p f)) x6 (some (valT s (gsOf s p f))) x8 x9 x10 x11 x12 x13 x14 x15 x16 x17 x18 x19 x20) (S1 a c) := by
  have e : callFn prog 19 17 [encF s p f] (S1 a c) = .ok (valT s (gsOf s p f)) (S1 a c) := o17 h 16 (by omega) _
  simp only [lb3, en, x_asg, ev_call, es_cons, es_nil, ev_var, List.getElem?_cons_succ, List.getElem?_cons_zero, QE.R.bind_okS, set_encF, cxt_call, e, QE.R.calm_okS, bind_name, set_valT, QE.R.of_some, List.set_cons_succ, List.set_cons_zero]
theorem tv_tup {ds : List Val} (h1 : ds.length ≤ 1000) (h2 : ∀ d ∈ ds, DV d) : TV (.tup ds) := ⟨rfl, .inr ⟨ds, rfl, h1, h2⟩⟩
theorem dv_tup {xs : List Val} (h : xs.all Val.flat = true) : DV (.tup xs) := ⟨rfl, .inr ⟨xs, .inl rfl, h⟩⟩
theorem dv_ptup {xs : List Val} (h : xs.all Val.flat = true) : DV (.ptup xs) := ⟨rfl, .inr ⟨xs, .inr rfl, h⟩⟩
theorem dv_valD (g : Nat → Option Nat) : DV (valD s g) := dv_ptup (ysD_flat s g)
theorem dv_days (gs : List (Nat → Option Nat)) : ∀ d ∈ gs.map (valD s), DV d := fun d hd => by
  obtain ⟨g, _, rfl⟩ := List.mem_map.mp hd
  exact dv_valD g
theorem ld_le (h : VF s p f) : load s p f ≤ 120 := h.load_le
theorem tv_tab (h : VF s p f) : TV (valT s (gsOf s p f)) := tv_tup (by simp [gs_len]; have := ld_le h; omega) (dv_days _)
theorem tabB_tab (h : VF s p f) : tabB s p f (valT s (gsOf s p f)) = true := by
  have e1 := fits_tab h (tab_fit h) 0 []
  have e2 := fits_gen h (tv_tab h) 0 []
  rw [e1] at e2
  simpa using e2.symm
theorem s4 (h : VF s p f) : execS cx lb4 (en sv x2 x3 x4 (some (encF s p f)) (some (nv (load s p f))) (some (valT s (gsOf s p f))) x8 x9 x10 x11 x12 x13 x14 x15 x16 x17 x18 x19 x20) (S1 a c) = .ok (.nx, en sv x2 x3 x4 (some (encF s p f)) (some (nv (load s p f))) (some (valT s (gsOf s p f))) x8 x9 x10 x11 x12 x13 x14 x15 x16 x17 x18 x19 x20) (S1 a c) := by
  have l2 : (2 : Nat) ≤ lim := by simp [lim]
  have e13 : callFn prog 19 13 [encF s p f] (S1 a c) = .ok (.bl true) (S1 a c) := are_ok h 15 _
  have e16 : callFn prog 19 16 [encF s p f] (S1 a c) = .ok (nv (load s p f)) (S1 a c) := o16 h 14 _
  have hl : ∀ S : Sto, callBi S .len [valT s (gsOf s p f)] = some (nv (load s p f)) := fun S => by rw [len_tab, gs_len]
  have e25 : callFn prog 19 25 [.tup [nv (load s p f), nv (load s p f)], .tup [nv (load s p f), nv (load s p f)]] (S1 a c) = .ok (.bl true) (S1 a c) := sm_tup 17 _ _ (by simp) fun x hx => by
    have : x = nv (load s p f) := by simpa using hx
    subst this
    exact ⟨sm_int 17 _ _, rfl⟩
  have e28 : callFn prog 19 28 [encF s p f, valT s (gsOf s p f)] (S1 a c) = .ok (.bl true) (S1 a c) := by
    rw [judge h (tv_tab h) 18, tabB_tab h]
  have isn1 : ∀ S : Sto, QE.cmp S .isn (.bl true) (.bl true) = some false := fun S => rfl
  simp only [lb4, en, x_if, ev_or, eor_cons, eor_nil, ev_cmp, ev_not, ev_call, ev_bi, ev_tup, es_cons, es_nil, ev_lit, ev_var, List.getElem?_cons_succ, List.getElem?_cons_zero, QE.R.bind_okS, set_encF, set_valT, set_nv, set_tup, cxt_call, e13, e16, hl, QE.R.of_some, List.length_cons, List.length_nil, Nat.zero_add, Nat.reduceAdd, l2, if_true, e25, e28, isn1, bl_ok, Bool.not_true, Bool.false_eq_true, if_false, QE.R.calm_okS, xs_nil]
end
end K68

set_option linter.all false
set_option maxRecDepth 10000
namespace K68
open QE
section
variable {s p : Nat} {f : Nat → Nat → Nat}
variable (a c : Int) (sv : Val) (x2 x3 x4 x5 x6 x7 x8 x9 x10 x11 x12 x13 x14 x15 x16 x17 x18 x19 x20 : Option Val)
/-- the sum of a piece's column in any env -/
theorem csum {s p : Nat} {f : Nat → Nat → Nat} (h : VF s p f) {i : Nat} (hi : i < p) (c : Ctx) (env : Env) (S : Sto) (j q w : Nat) (h5 : env[w]? = some (some (encF s p f))) (h9 : env[q]? = some (some (nv i))) (hj : ∀ v : Val, ((wipe env [j]).set j (some v))[j]? = some (some v) ∧ ((wipe env [j]).set j (some v))[q]? = some (some (nv i))) :
    evalE c (.bi .sum [(.comp [j] (.name j) (.it (.var w)) [] (.idx (.var j) (.var q)))]) env S = .ok (nv (cS s f i)) S := by
  have hs2 := h.s2
  have a1 : evalE c (.comp [j] (.name j) (.it (.var w)) [] (.idx (.var j) (.var q))) env S = .ok (.lst true ((List.range s).map fun r => nv (f r i))) S :=
    ev_compc (fun r => rowV p (f r)) (fun r => nv (f r i)) (List.range s) (walk_enc _ _ _ (by simp only [ev_var, h5])) (small_lim (by simp; omega)) (fun r hr => ⟨_, by rw [bind_name], by
      obtain ⟨q1, q2⟩ := hj (rowV p (f r))
      simp only [ev_idx, ev_var, set_rowV, q1, q2, QE.R.bind_okS, it_row' hi, QE.R.of_some]⟩) (fun _ => rfl)
  simp only [ev_bi, es_cons, es_nil, a1, QE.R.bind_okS, set_lst, sum_lst, QE.R.of_some]
  rfl
theorem eqv_nvl : ∀ l : List Nat, Val.eqvL (l.map nv) (l.map nv) = true
  | [] => by simp [Val.eqvL]
  | x :: l => by
    have := eqv_nvl l
    simp only [List.map_cons, Val.eqvL, this, nv, Val.eqv, Bool.and_true]
    simp
theorem chk_nvl : ∀ l : List Nat, Val.chkL 63 (l.map nv) = true
  | [] => by simp [Val.chkL]
  | x :: l => by
    have := chk_nvl l
    simp only [List.map_cons, Val.chkL, this, nv, Val.chk, Bool.and_true]
theorem ne_nvl (l : List Nat) (S : Sto) : QE.cmp S .ne (.lst true (l.map nv)) (.lst true (l.map nv)) = some false := by
  simp only [QE.cmp, eqVal, res, Val.chk, chk_nvl, Bool.and_self, if_true, Val.eqv, eqv_nvl, nt]
  rfl
theorem s5 (h : VF s p f) (hs : s ≤ 5) (hp : p ≤ 5) : execS cx lb5 (en sv x2 (some (nv s)) (some (nv p)) (some (encF s p f)) x6 x7 x8 x9 x10 x11 x12 x13 x14 x15 x16 x17 x18 x19 x20) (S1 a c) = .ok (.nx, en sv x2 (some (nv s)) (some (nv p)) (some (encF s p f)) x6 x7 x8 x9 x10 x11 x12 x13 x14 x15 x16 x17 x18 x19 x20) (S1 a c) := by
  have hs1 := h.s1
  have a1 : evalE cx (.comp [9] (.name 9) (.rng1 (.var 3)) [] (.call 14 [(.var 5), (.var 9)])) (en sv x2 (some (nv s)) (some (nv p)) (some (encF s p f)) x6 x7 x8 x9 x10 x11 x12 x13 x14 x15 x16 x17 x18 x19 x20) (S1 a c) = .ok (.lst true (((List.range s).map (rS p f)).map nv)) (S1 a c) := by
    rw [List.map_map]
    refine ev_compc nv (fun i => nv (rS p f i)) (List.range s) (by
      simp only [en, sr_1, ev_var, List.getElem?_cons_succ, List.getElem?_cons_zero, QE.R.bind_okS, int_nv]
      exact rng_ok _ s (by omega)) (small_lim (by simp; omega)) (fun i hi => ⟨_, by rw [bind_name], ?_⟩) (fun _ => rfl)
    have e := o14 h (List.mem_range.mp hi) 14 (S1 a c)
    simp only [en, wipe, List.foldl_cons, List.foldl_nil, List.set_cons_succ, List.set_cons_zero, ev_call, es_cons, es_nil, ev_var, List.getElem?_cons_succ, List.getElem?_cons_zero, QE.R.bind_okS, set_encF, set_nv, cxt_call, e]
  have a2 : evalE cx (.comp [19] (.name 19) (.it (.var 5)) [] (.bi .sum [(.var 19)])) (en sv x2 (some (nv s)) (some (nv p)) (some (encF s p f)) x6 x7 x8 x9 x10 x11 x12 x13 x14 x15 x16 x17 x18 x19 x20) (S1 a c) = .ok (.lst true (((List.range s).map (rS p f)).map nv)) (S1 a c) := by
    rw [List.map_map]
    refine ev_compc (fun r => rowV p (f r)) (fun i => nv (rS p f i)) (List.range s) (walk_enc _ _ _ (by simp only [en, ev_var, List.getElem?_cons_succ, List.getElem?_cons_zero])) (small_lim (by simp; omega)) (fun i hi => ⟨_, by rw [bind_name], ?_⟩) (fun _ => rfl)
    simp only [en, wipe, List.foldl_cons, List.foldl_nil, List.set_cons_succ, List.set_cons_zero, ev_bi, es_cons, es_nil, ev_var, List.getElem?_cons_succ, List.getElem?_cons_zero, QE.R.bind_okS, set_rowV, sum_rowV, QE.R.of_some]
    rfl
  have a3 : evalE cx (.comp [9] (.name 9) (.rng1 (.var 4)) [] (.call 15 [(.var 5), (.var 9)])) (en sv x2 (some (nv s)) (some (nv p)) (some (encF s p f)) x6 x7 x8 x9 x10 x11 x12 x13 x14 x15 x16 x17 x18 x19 x20) (S1 a c) = .ok (.lst true (((List.range p).map (cS s f)).map nv)) (S1 a c) := by
    rw [List.map_map]
    refine ev_compc nv (fun i => nv (cS s f i)) (List.range p) (by
      simp only [en, sr_1, ev_var, List.getElem?_cons_succ, List.getElem?_cons_zero, QE.R.bind_okS, int_nv]
      exact rng_ok _ p (by omega)) (small_lim (by simp; omega)) (fun i hi => ⟨_, by rw [bind_name], ?_⟩) (fun _ => rfl)
    have e := o15 h (List.mem_range.mp hi) 14 (S1 a c)
    simp only [en, wipe, List.foldl_cons, List.foldl_nil, List.set_cons_succ, List.set_cons_zero, ev_call, es_cons, es_nil, ev_var, List.getElem?_cons_succ, List.getElem?_cons_zero, QE.R.bind_okS, set_encF, set_nv, cxt_call, e]
  have a4 : evalE cx (.comp [9] (.name 9) (.rng1 (.var 4)) [] (.bi .sum [(.comp [19] (.name 19) (.it (.var 5)) [] (.idx (.var 19) (.var 9)))])) (en sv x2 (some (nv s)) (some (nv p)) (some (encF s p f)) x6 x7 x8 x9 x10 x11 x12 x13 x14 x15 x16 x17 x18 x19 x20) (S1 a c) = .ok (.lst true (((List.range p).map (cS s f)).map nv)) (S1 a c) := by
    rw [List.map_map]
    refine ev_compc nv (fun i => nv (cS s f i)) (List.range p) (by
      simp only [en, sr_1, ev_var, List.getElem?_cons_succ, List.getElem?_cons_zero, QE.R.bind_okS, int_nv]
      exact rng_ok _ p (by omega)) (small_lim (by simp; omega)) (fun i hi => ⟨_, by rw [bind_name], ?_⟩) (fun _ => rfl)
    exact csum h (List.mem_range.mp hi) _ _ _ 19 9 5 rfl rfl (fun v => ⟨rfl, rfl⟩)
  simp only [lb5, x_if, ev_or, eor_cons, eor_nil, ev_cmp, a1, a2, a3, a4, QE.R.bind_okS, ne_nvl, QE.R.of_some, bl_ok, Bool.false_eq_true, if_false, QE.R.calm_okS, xs_nil]
end
end K68

set_option linter.all false
set_option maxRecDepth 10000
namespace K68
open QE
section
variable {s p : Nat} {f : Nat → Nat → Nat} {gs : List (Nat → Option Nat)}
theorem cut_mem {α : Type} {xs : List α} {lo hi : Option Int} {x : α} (h : x ∈ cut xs lo hi) : x ∈ xs := List.mem_of_mem_drop (List.mem_of_mem_take h)
theorem cut_len {α : Type} (xs : List α) (lo hi : Option Int) : (cut xs lo hi).length ≤ xs.length := by
  unfold cut
  rw [List.length_take, List.length_drop]
  omega
theorem cut_flat {xs : List Val} {lo hi : Option Int} (h : xs.all Val.flat = true) : (cut xs lo hi).all Val.flat = true := by
  rw [List.all_eq_true] at h ⊢
  exact fun x hx => h x (cut_mem hx)
def D0 (s : Nat) (gs : List (Nat → Option Nat)) : List Val := gs.map (valD s)
def near0 (s : Nat) (gs : List (Nat → Option Nat)) : List Val := [valT s gs, .tup (D0 s gs).reverse, .tup (D0 s gs ++ [.tup (List.replicate s .non)]), .lst false (D0 s gs), .non, .tup (cut (D0 s gs) (some 1) none), .tup (D0 s gs ++ cut (D0 s gs) (some (-1)) none), .tup [],
  .tup (gs.map fun g => .tup (ysD s g).reverse), .tup (gs.map fun g => .lst false (ysD s g))]
theorem near0_tv (hg : gs.length ≤ 400) : ∀ v ∈ near0 s gs, TV v := by
  intro v hv
  have dd := dv_days (s := s) gs
  have hl : (D0 s gs).length = gs.length := by simp [D0]
  have c1 := cut_len (D0 s gs) (some 1) none
  have c2 := cut_len (D0 s gs) (some (-1)) none
  simp only [near0, List.mem_cons, List.not_mem_nil, or_false] at hv
  rcases hv with rfl | rfl | rfl | rfl | rfl | rfl | rfl | rfl | rfl | rfl
  · exact tv_tup (by simp; omega) dd
  · exact tv_tup (by simp [hl]; omega) fun d hd => dd d (List.mem_reverse.mp hd)
  · refine tv_tup (by simp [hl]; omega) fun d hd => ?_
    rcases List.mem_append.mp hd with hd | hd
    · exact dd d hd
    · have : d = .tup (List.replicate s .non) := by simpa using hd
      subst this
      refine dv_tup ?_
      rw [List.all_eq_true]
      intro x hx
      rw [List.eq_of_mem_replicate hx]
      rfl
  · exact ⟨rfl, .inl rfl⟩
  · exact ⟨rfl, .inl rfl⟩
  · exact tv_tup (by omega) fun d hd => dd d (cut_mem hd)
  · refine tv_tup (by rw [List.length_append]; omega) fun d hd => ?_
    rcases List.mem_append.mp hd with hd | hd
    · exact dd d hd
    · exact dd d (cut_mem hd)
  · exact tv_tup (by simp) fun d hd => by simp at hd
  · refine tv_tup (by simp; omega) fun d hd => ?_
    obtain ⟨g, _, rfl⟩ := List.mem_map.mp hd
    refine dv_tup ?_
    rw [List.all_reverse]
    exact ysD_flat s g
  · refine tv_tup (by simp; omega) fun d hd => ?_
    obtain ⟨g, _, rfl⟩ := List.mem_map.mp hd
    exact ⟨rfl, .inl rfl⟩
variable (a c : Int) (sv : Val) (x2 x3 x4 x5 x6 x7 x8 x9 x10 x11 x12 x13 x14 x15 x16 x17 x18 x19 x20 : Option Val)
theorem s6 (h : VF s p f) (hs : s ≤ 5) : execS cx lb6 (en sv x2 (some (nv s)) x4 x5 x6 (some (valT s (gsOf s p f))) x8 x9 x10 x11 x12 x13 x14 x15 x16 x17 x18 x19 x20) (S1 a c) = .ok (.nx, en sv x2 (some (nv s)) x4 x5 x6 (some (valT s (gsOf s p f))) (some (.lst false (near0 s (gsOf s p f)))) x9 x10 x11 x12 x13 x14 x15 x16 x17 x18 x19 x20) (S1 a c) := by
  have hs1 := h.s1
  have hL := ld_le h
  have hgl := gs_len (s := s) (p := p) (f := f)
  have hl : (D0 s (gsOf s p f)).length = load s p f := by simp [D0, hgl]
  have c2 := cut_len (D0 s (gsOf s p f)) (some (-1)) none
  have l10 : (10 : Nat) ≤ lim := by simp [lim]
  have l1 : (1 : Nat) ≤ lim := by simp [lim]
  have l0 : (0 : Nat) ≤ lim := by simp [lim]
  have vT : valT s (gsOf s p f) = .tup (D0 s (gsOf s p f)) := rfl
  have r1 : ∀ S : Sto, revV S (valT s (gsOf s p f)) = some (.tup (D0 s (gsOf s p f)).reverse) := fun S => rfl
  have m1 : ∀ S : Sto, QE.bin S .mul (.tup [.non]) (nv s) = some (.tup (List.replicate s .non)) := fun S => mt_ _ s hs1 (by omega) S
  have b1 : ∀ S : Sto, QE.bin S .add (valT s (gsOf s p f)) (.tup [.tup (List.replicate s .non)]) = some (.tup (D0 s (gsOf s p f) ++ [.tup (List.replicate s .non)])) := fun S => by
    rw [vT]
    simp only [QE.bin, addV]
    rw [if_pos (small_lim (by simp [hl]; omega))]
  have t1 : ∀ S : Sto, callBi S .list [valT s (gsOf s p f)] = some (.lst true (D0 s (gsOf s p f))) := fun S => rfl
  have sl1 : ∀ S : Sto, QE.slice S (valT s (gsOf s p f)) (some 1) none = some (.tup (cut (D0 s (gsOf s p f)) (some 1) none)) := fun S => rfl
  have sl2 : ∀ S : Sto, QE.slice S (valT s (gsOf s p f)) (some (-1)) none = some (.tup (cut (D0 s (gsOf s p f)) (some (-1)) none)) := fun S => rfl
  have b2 : ∀ S : Sto, QE.bin S .add (valT s (gsOf s p f)) (.tup (cut (D0 s (gsOf s p f)) (some (-1)) none)) = some (.tup (D0 s (gsOf s p f) ++ cut (D0 s (gsOf s p f)) (some (-1)) none)) := fun S => by
    rw [vT]
    simp only [QE.bin, addV]
    rw [if_pos (small_lim (by omega))]
  have hw : evalSrc cx (.it (.var 7)) (en sv x2 (some (nv s)) x4 x5 x6 (some (valT s (gsOf s p f))) x8 x9 x10 x11 x12 x13 x14 x15 x16 x17 x18 x19 x20) (S1 a c) = .ok ((gsOf s p f).map (valD s)) (S1 a c) := by
    simp only [en, sr_it, ev_var, List.getElem?_cons_succ, List.getElem?_cons_zero, QE.R.bind_okS]
    rfl
  have a1 : evalE cx (.comp [11] (.name 11) (.it (.var 7)) [] (.rev (.var 11))) (en sv x2 (some (nv s)) x4 x5 x6 (some (valT s (gsOf s p f))) x8 x9 x10 x11 x12 x13 x14 x15 x16 x17 x18 x19 x20) (S1 a c) = .ok (.lst true ((gsOf s p f).map fun g => .tup (ysD s g).reverse)) (S1 a c) := by
    refine ev_compc (valD s) (fun g => .tup (ysD s g).reverse) (gsOf s p f) hw (small_lim (by omega)) (fun g _ => ⟨_, by rw [bind_name], ?_⟩) (fun _ => rfl)
    simp only [en, wipe, List.foldl_cons, List.foldl_nil, List.set_cons_succ, List.set_cons_zero, ev_rev, ev_var, List.getElem?_cons_succ, List.getElem?_cons_zero, QE.R.bind_okS, set_valD]
    rfl
  have a2 : evalE cx (.comp [11] (.name 11) (.it (.var 7)) [] (.bi .list [(.var 11)])) (en sv x2 (some (nv s)) x4 x5 x6 (some (valT s (gsOf s p f))) x8 x9 x10 x11 x12 x13 x14 x15 x16 x17 x18 x19 x20) (S1 a c) = .ok (.lst true ((gsOf s p f).map fun g => .lst false (ysD s g))) (S1 a c) := by
    refine ev_comp hw ?_ (by simp only [List.length_map]; exact small_lim (by omega))
    rw [comp_all (c := cx) (valD s) (fun g => .lst true (ysD s g)) (gsOf s p f) (fun g _ => ⟨_, by rw [bind_name], by
      simp only [en, wipe, List.foldl_cons, List.foldl_nil, List.set_cons_succ, List.set_cons_zero, ev_bi, es_cons, es_nil, ev_var, List.getElem?_cons_succ, List.getElem?_cons_zero, QE.R.bind_okS, set_valD]
      rfl⟩)]
    rfl
  have tp : ∀ (L : List Val) (S : Sto), callBi S .tuple [.lst false L] = some (.tup L) := fun L S => rfl
  rw [en] at a1 a2
  simp only [lb6, en, x_asg, ev_list, es_cons, es_nil, ev_rev, ev_bin, ev_tup, ev_bi, ev_slice, eo_none, eo_some, ev_neg, ev_lit, ev_var, List.getElem?_cons_succ, List.getElem?_cons_zero, QE.R.bind_okS, set_valT, set_non, set_tup, set_lst, int_ok, r1, m1, b1, t1, sl1, sl2, b2, a1, a2, tp, QE.R.of_some, List.length_cons, List.length_nil, Nat.zero_add, Nat.reduceAdd, l0, l1, l10, if_true, QE.R.calm_okS, bind_name, List.set_cons_succ, List.set_cons_zero]
  rfl
end
end K68

set_option linter.all false
set_option maxRecDepth 10000
namespace K68
open QE
section
variable {s p : Nat} {f : Nat → Nat → Nat} {gs : List (Nat → Option Nat)}
def swp (Y : List Val) (k : Nat) (o : Val) : Val := .tup (cut Y none (some (k : Int)) ++ [o] ++ cut Y (some ((k : Int) + 1)) none)
theorem clip_lo {n : Nat} {i : Int} (h : 0 ≤ i) : clip n 0 (some i) = min i.toNat n := by simp [clip]; omega
theorem swp_ev {Y : List Val} {k : Nat} (hk : k < Y.length) (hl : Y.length ≤ 1000) (o : Val) (S : Sto) : ∃ u v w, QE.slice S (.ptup Y) none (some (k : Int)) = some u ∧ QE.slice S (.ptup Y) (some ((k : Int) + 1)) none = some v ∧ QE.bin S .add u (.tup [o]) = some w ∧ QE.bin S .add w v = some (swp Y k o) := by
  refine ⟨.tup (cut Y none (some (k : Int))), .tup (cut Y (some ((k : Int) + 1)) none), .tup (cut Y none (some (k : Int)) ++ [o]), ?_, ?_, ?_, ?_⟩
  · simp only [QE.slice]
    rw [if_neg]
    simp only [clip]
    rintro ⟨_, h⟩
    split at h <;> omega
  · simp only [QE.slice]
    rw [if_neg]
    simp only [clip]
    rintro ⟨h, _⟩
    split at h <;> omega
  · simp only [QE.bin, addV]
    have := cut_len Y none (some (k : Int))
    rw [if_pos (small_lim (by simp; omega))]
  · simp only [QE.bin, addV]
    have := cut_len Y none (some (k : Int))
    have := cut_len Y (some ((k : Int) + 1)) none
    rw [if_pos (small_lim (by rw [List.length_append, List.length_singleton]; omega))]
    rfl
def exY (Y : List Val) : List Val := [.tup (cut Y (some 1) none), .tup (Y ++ [.non]), .non]
theorem exY_len (Y : List Val) : (exY Y).length = 3 := rfl
def spl (D : List Val) (k : Nat) (o : Val) : Val := .tup (cut D none (some (k : Int)) ++ [o] ++ cut D (some ((k : Int) + 1)) none)
theorem spl_ev {D : List Val} {k : Nat} (hl : D.length ≤ 1000) (o : Val) (S : Sto) : ∃ u v w, QE.slice S (.tup D) none (some (k : Int)) = some u ∧ QE.slice S (.tup D) (some ((k : Int) + 1)) none = some v ∧ QE.bin S .add u (.tup [o]) = some w ∧ QE.bin S .add w v = some (spl D k o) := by
  refine ⟨.tup (cut D none (some (k : Int))), .tup (cut D (some ((k : Int) + 1)) none), .tup (cut D none (some (k : Int)) ++ [o]), rfl, rfl, ?_, ?_⟩
  · simp only [QE.bin, addV]
    have := cut_len D none (some (k : Int))
    rw [if_pos (small_lim (by simp; omega))]
  · simp only [QE.bin, addV]
    have := cut_len D none (some (k : Int))
    have := cut_len D (some ((k : Int) + 1)) none
    rw [if_pos (small_lim (by rw [List.length_append, List.length_singleton]; omega))]
    rfl
theorem swp_dv {Y : List Val} {k : Nat} {o : Val} (hY : Y.all Val.flat = true) (ho : o.flat = true) : DV (swp Y k o) := by
  refine dv_tup ?_
  rw [List.all_append, List.all_append, cut_flat hY, cut_flat hY]
  simp [ho]
theorem spl_tv {D : List Val} {k : Nat} {o : Val} (hl : D.length ≤ 300) (hD : ∀ d ∈ D, DV d) (ho : DV o) : TV (spl D k o) := by
  have := cut_len D none (some (k : Int))
  have := cut_len D (some ((k : Int) + 1)) none
  refine tv_tup (by rw [List.length_append, List.length_append, List.length_singleton]; omega) fun d hd => ?_
  rcases List.mem_append.mp hd with hd | hd
  · rcases List.mem_append.mp hd with hd | hd
    · exact hD d (cut_mem hd)
    · have : d = o := by simpa using hd
      rw [this]; exact ho
  · exact hD d (cut_mem hd)
theorem flat_st {x : Val} (h : x.flat = true) : x.settle = x := by
  cases x <;> simp only [Val.flat] at h <;> first | (cases h; done) | rfl
variable (a c : Int) (sv : Val) (x2 x3 x4 x5 x6 x7 x8 x9 x10 x11 x12 x13 x14 x15 x16 x17 x18 x19 x20 : Option Val)
theorem ne_tab (h : VF s p f) (S : Sto) : QE.cmp S .ne (valT s (gsOf s p f)) (.tup []) = some (decide (0 < load s p f)) := by
  have ck : ∀ l : List (Nat → Option Nat), Val.chkL 63 (l.map (valD s)) = true := fun l => by
    induction l with
    | nil => simp [Val.chkL]
    | cons g l ih =>
      have : ∀ r : List Nat, Val.chkL 62 (r.map fun r => ov (g r)) = true := by
        intro r
        induction r with
        | nil => simp [Val.chkL]
        | cons x r ih =>
          have : (ov (g x)).chk 62 = true := by cases g x <;> simp [ov, nv, Val.chk]
          simp only [List.map_cons, Val.chkL, this, ih, Bool.and_self]
      simp only [List.map_cons, Val.chkL, valD, Val.chk, this, ih, Bool.and_self]
  have hc : (valT s (gsOf s p f)).chk 64 = true := by simp only [valT, Val.chk]; exact ck _
  have he : (valT s (gsOf s p f)).eqv (.tup []) = decide (load s p f = 0) := by
    have hl := gs_len (s := s) (p := p) (f := f)
    cases hg : gsOf s p f with
    | nil => rw [hg] at hl; simp at hl; simp [valT, Val.eqv, Val.eqvL, ← hl]
    | cons g l => rw [hg] at hl; simp at hl; simp [valT, Val.eqv, Val.eqvL, ← hl]
  simp only [QE.cmp, eqVal]
  rw [show res S (valT s (gsOf s p f)) = valT s (gsOf s p f) from rfl, show res S (.tup []) = .tup [] from rfl, hc, if_pos (by simp [Val.chk, Val.chkL]), he]
  by_cases h0 : load s p f = 0
  · simp [nt, h0]
  · have : 0 < load s p f := by omega
    simp [nt, h0, this]
def sa1 : Stm := (.asg (.tup [(.name 9), (.name 10)]) (.tup [(.call 23 [(.var 1), (.var 6)]), (.call 23 [(.var 1), (.var 3)])]))
def sa2 : Stm := (.asg (.name 11) (.idx (.var 7) (.var 9)))
def eSw : E := (.bin .add (.bin .add (.slice (.var 11) none (some (.var 10))) (.tup [(.var 18)])) (.slice (.var 11) (some (.bin .add (.var 10) (.lit (.int 1)))) none))
def sa3 : Stm := (.asg (.name 12) (.comp [18] (.name 18) (.it (.tup [(.lit .non), (.var 4), (.neg (.lit (.int 1))), (.lit (.bl true)), (.lit (.str [48])), (.call 23 [(.var 1), (.var 4)])])) [] eSw))
def eSp : E := (.bin .add (.bin .add (.slice (.var 7) none (some (.var 9))) (.tup [(.var 13)])) (.slice (.var 7) (some (.bin .add (.var 9) (.lit (.int 1)))) none))
def sa4 : Stm := (.asg (.name 8) (.bin .add (.var 8) (.comp [13] (.name 13) (.it (.bin .add (.var 12) (.list [(.slice (.var 11) (some (.lit (.int 1))) none), (.bin .add (.var 11) (.tup [(.lit .non)])), (.lit .non)]))) [] eSp)))
theorem lb7_eq : lb7 = (.if_ (.cmp .ne (.var 7) (.tup [])) [sa1, sa2, sa3, sa4] []) := rfl
theorem t1 (h : VF s p f) (ha : 0 ≤ a) (hs : s ≤ 5) (h0 : 0 < load s p f) : ∃ (at_ k : Nat) (a' c' : Int), at_ < load s p f ∧ k < s ∧ 0 ≤ a' ∧ ∀ (sv : Val) (x2 x4 x5 x7 x8 x9 x10 x11 x12 x13 x14 x15 x16 x17 x18 x19 x20 : Option Val), execS cx sa1 (en sv x2 (some (nv s)) x4 x5 (some (nv (load s p f))) x7 x8 x9 x10 x11 x12 x13 x14 x15 x16 x17 x18 x19 x20) (S1 a c) = .ok (.nx, en sv x2 (some (nv s)) x4 x5 (some (nv (load s p f))) x7 x8 (some (nv at_)) (some (nv k)) x11 x12 x13 x14 x15 x16 x17 x18 x19 x20) (S1 a' c') := by
  have hL := ld_le h
  have hs1 := h.s1
  obtain ⟨r, a1, c1, h1, h2, h3, h4⟩ := roll 18 [] a c (load s p f) ha (by omega) (by omega)
  obtain ⟨r', a2, c2, g1, g2, g3, g4⟩ := roll 18 [] a1 c1 s h3 (by omega) (by omega)
  refine ⟨r.toNat, r'.toNat, a2, c2, by omega, by omega, g3, fun sv x2 x4 x5 x7 x8 x9 x10 x11 x12 x13 x14 x15 x16 x17 x18 x19 x20 => ?_⟩
  have e1 : nv r.toNat = .int r := by
    show Val.int _ = Val.int _
    congr 1
    omega
  have e2 : nv r'.toNat = .int r' := by
    show Val.int _ = Val.int _
    congr 1
    omega
  have h4' : callFn prog 19 23 [.ref 0, nv (load s p f)] (st a c []) = .ok (.int r) (st a1 c1 []) := h4
  have g4' : callFn prog 19 23 [.ref 0, nv s] (st a1 c1 []) = .ok (.int r') (st a2 c2 []) := g4
  have l2 : (2 : Nat) ≤ lim := by simp [lim]
  rw [e1, e2]
  simp only [sa1, en, x_asg, ev_tup, es_cons, es_nil, ev_call, ev_var, List.getElem?_cons_succ, List.getElem?_cons_zero, QE.R.bind_okS, set_ref, set_nv, set_int, cxt_call, h4', g4', List.length_cons, List.length_nil, Nat.zero_add, Nat.reduceAdd, l2, if_true, QE.R.calm_okS, bind_tup, binds_cons, binds_nil, bind_name, QE.R.of_some, List.set_cons_succ, List.set_cons_zero]
theorem t2 {at_ : Nat} (ht : at_ < load s p f) : execS cx sa2 (en sv x2 x3 x4 x5 x6 (some (valT s (gsOf s p f))) x8 (some (nv at_)) x10 x11 x12 x13 x14 x15 x16 x17 x18 x19 x20) (S1 a c) = .ok (.nx, en sv x2 x3 x4 x5 x6 (some (valT s (gsOf s p f))) x8 (some (nv at_)) x10 (some (.ptup (ysD s ((gsOf s p f)[at_]?.getD fun _ => none)))) x12 x13 x14 x15 x16 x17 x18 x19 x20) (S1 a c) := by
  have hlt : at_ < (gsOf s p f).length := by rw [gs_len]; exact ht
  have i1 : ∀ S : Sto, item S (valT s (gsOf s p f)) (nv at_) = some (.ptup (ysD s ((gsOf s p f)[at_]'hlt))) := fun S => by
    show itemOf _ (.int (at_ : Int)) = _
    exact atI_nat _ (by simp [hlt, valD, ysD])
  have st : ∀ Y : List Val, (Val.ptup Y).settle = .ptup Y := fun Y => rfl
  simp only [sa2, en, x_asg, ev_idx, ev_var, List.getElem?_cons_succ, List.getElem?_cons_zero, QE.R.bind_okS, i1, QE.R.of_some, QE.R.calm_okS, bind_name, st, List.set_cons_succ, List.set_cons_zero]
  simp only [hlt, getElem?_pos, Option.map_some, Option.getD_some]
theorem t3 (ha : 0 ≤ a) (hp : 1 ≤ p ∧ p ≤ 5) {k : Nat} {Y : List Val} (hk : k < Y.length) (hl : Y.length ≤ 1000) : ∃ (q : Nat) (a' c' : Int), 0 ≤ a' ∧ ∀ (sv : Val) (x2 x3 x5 x6 x7 x8 x9 x12 x13 x14 x15 x16 x17 x18 x19 x20 : Option Val), execS cx sa3 (en sv x2 x3 (some (nv p)) x5 x6 x7 x8 x9 (some (nv k)) (some (.ptup Y)) x12 x13 x14 x15 x16 x17 x18 x19 x20) (S1 a c) = .ok (.nx, en sv x2 x3 (some (nv p)) x5 x6 x7 x8 x9 (some (nv k)) (some (.ptup Y)) (some (.lst false ([.non, nv p, .int (-1), .bl true, .str [48], nv q].map (swp Y k)))) x13 x14 x15 x16 x17 x18 x19 x20) (S1 a' c') := by
  obtain ⟨r, a1, c1, h1, h2, h3, h4⟩ := roll 18 [] a c p ha (by omega) (by omega)
  refine ⟨r.toNat, a1, c1, h3, fun sv x2 x3 x5 x6 x7 x8 x9 x12 x13 x14 x15 x16 x17 x18 x19 x20 => ?_⟩
  have e1 : nv r.toNat = .int r := by
    show Val.int _ = Val.int _
    congr 1
    omega
  have h4' : callFn prog 19 23 [.ref 0, nv p] (st a c []) = .ok (nv r.toNat) (st a1 c1 []) := by rw [e1]; exact h4
  have l6 : (6 : Nat) ≤ lim := by simp [lim]
  have l1 : (1 : Nat) ≤ lim := by simp [lim]
  have hw : evalSrc cx (.it (.tup [(.lit .non), (.var 4), (.neg (.lit (.int 1))), (.lit (.bl true)), (.lit (.str [48])), (.call 23 [(.var 1), (.var 4)])])) (en sv x2 x3 (some (nv p)) x5 x6 x7 x8 x9 (some (nv k)) (some (.ptup Y)) x12 x13 x14 x15 x16 x17 x18 x19 x20) (S1 a c) = .ok (([.non, nv p, .int (-1), .bl true, .str [48], nv r.toNat] : List Val).map id) (S1 a1 c1) := by
    simp only [en, sr_it, ev_tup, es_cons, es_nil, ev_lit, ev_neg, ev_call, ev_var, List.getElem?_cons_succ, List.getElem?_cons_zero, QE.R.bind_okS, int_ok, set_non, set_nv, set_int, set_bl, set_str, set_ref, cxt_call, h4', List.length_cons, List.length_nil, Nat.zero_add, Nat.reduceAdd, l6, if_true, List.map_id]
    rfl
  have fl : ∀ o ∈ ([.non, nv p, .int (-1), .bl true, .str [48], nv r.toNat] : List Val), o.settle = o := fun o ho => by
    simp only [List.mem_cons, List.not_mem_nil, or_false] at ho
    rcases ho with rfl | rfl | rfl | rfl | rfl | rfl <;> rfl
  have hv := ev_comp (c := cx) (env := en sv x2 x3 (some (nv p)) x5 x6 x7 x8 x9 (some (nv k)) (some (.ptup Y)) x12 x13 x14 x15 x16 x17 x18 x19 x20) (S := S1 a c) (own := [18]) (tg := .name 18) (ifs := []) (elt := eSw) hw (comp_all (c := cx) id (fun o => swp Y k o) _ fun o ho => ⟨_, by rw [bind_name], by
    obtain ⟨u, v, w, q1, q2, q3, q4⟩ := swp_ev hk hl o (S1 a1 c1)
    have e9 : ∀ S : Sto, QE.bin S .add (nv k) (.int 1) = some (.int ((k : Int) + 1)) := fun S => rfl
    simp only [eSw, en, wipe, List.foldl_cons, List.foldl_nil, List.set_cons_succ, List.set_cons_zero, ev_bin, ev_slice, eo_none, eo_some, ev_tup, es_cons, es_nil, ev_lit, ev_var, List.getElem?_cons_succ, List.getElem?_cons_zero, QE.R.bind_okS, id, fl o ho, int_nv, int_ok, q1, q2, e9, QE.R.of_some, List.length_cons, List.length_nil, Nat.zero_add, l1, if_true, q3, q4]⟩) (by simp only [List.length_map, List.length_cons, List.length_nil]; exact l6)
  simp only [sa3, x_asg, hv, QE.R.calm_okS, QE.R.bind_okS, bind_name, set_lst, QE.R.of_some]
  rfl
theorem t4 {at_ : Nat} {D Y W N : List Val} (hD : D.length ≤ 300) (hY : 1 ≤ Y.length ∧ Y.length ≤ 1000) (hW : W.length ≤ 100) (hN : N.length ≤ 100) (hst : ∀ o ∈ W, o.settle = o) : execS cx sa4 (en sv x2 x3 x4 x5 x6 (some (.tup D)) (some (.lst false N)) (some (nv at_)) x10 (some (.ptup Y)) (some (.lst false W)) x13 x14 x15 x16 x17 x18 x19 x20) (S1 a c) = .ok (.nx, en sv x2 x3 x4 x5 x6 (some (.tup D)) (some (.lst false (N ++ (W ++ exY Y).map (spl D at_)))) (some (nv at_)) x10 (some (.ptup Y)) (some (.lst false W)) x13 x14 x15 x16 x17 x18 x19 x20) (S1 a c) := by
  have l1 : (1 : Nat) ≤ lim := by simp [lim]
  have l3 : (3 : Nat) ≤ lim := by simp [lim]
  have q1 : ∀ S : Sto, QE.slice S (.ptup Y) (some 1) none = some (.tup (cut Y (some 1) none)) := fun S => by
    simp only [QE.slice]
    rw [if_neg]
    simp only [clip]
    rintro ⟨h, _⟩
    rw [if_neg (by omega)] at h
    have : (1 : Int).toNat = 1 := rfl
    omega
  have q2 : ∀ S : Sto, QE.bin S .add (.ptup Y) (.tup [.non]) = some (.tup (Y ++ [.non])) := fun S => by
    have : Y.isEmpty = false := by
      cases Y with
      | nil => simp at hY
      | cons _ _ => rfl
    simp only [QE.bin, addV, this]
    rw [if_pos]
    simp
    exact small_lim (by omega)
  have q3 : ∀ (L : List Val) (S : Sto), L.length ≤ 100 → QE.bin S .add (.lst false W) (.lst true L) = some (.lst true (W ++ L)) := fun L S hL => by
    simp only [QE.bin, addV, asList]
    rw [if_pos (small_lim (by omega))]
  have q4 : QE.bin (S1 a c) .add (.lst false W) (.lst true [.tup (cut Y (some 1) none), .tup (Y ++ [.non]), .non]) = some (.lst true (W ++ exY Y)) := q3 (exY Y) _ (by simp [exY])
  have hw : evalSrc cx (.it (.bin .add (.var 12) (.list [(.slice (.var 11) (some (.lit (.int 1))) none), (.bin .add (.var 11) (.tup [(.lit .non)])), (.lit .non)]))) (en sv x2 x3 x4 x5 x6 (some (.tup D)) (some (.lst false N)) (some (nv at_)) x10 (some (.ptup Y)) (some (.lst false W)) x13 x14 x15 x16 x17 x18 x19 x20) (S1 a c) = .ok ((W ++ exY Y).map id) (S1 a c) := by
    simp only [en, sr_it, ev_bin, ev_list, ev_slice, eo_none, eo_some, ev_tup, es_cons, es_nil, ev_lit, ev_var, List.getElem?_cons_succ, List.getElem?_cons_zero, QE.R.bind_okS, int_ok, q1, q2, q4, QE.R.of_some, set_tup, set_non, List.length_cons, List.length_nil, Nat.zero_add, Nat.reduceAdd, l1, l3, if_true, List.map_id]
    rfl
  have hv := ev_compc (c := cx) (env := en sv x2 x3 x4 x5 x6 (some (.tup D)) (some (.lst false N)) (some (nv at_)) x10 (some (.ptup Y)) (some (.lst false W)) x13 x14 x15 x16 x17 x18 x19 x20) (S := S1 a c) (own := [13]) (tg := .name 13) (elt := eSp) id (spl D at_) _ hw (small_lim (by rw [List.length_append]; simp [exY]; omega)) (fun o ho => ⟨_, by rw [bind_name], by
    obtain ⟨u, v, w, q1, q2, q3, q4⟩ := spl_ev (k := at_) (D := D) (by omega) o (S1 a c)
    have e9 : ∀ S : Sto, QE.bin S .add (nv at_) (.int 1) = some (.int ((at_ : Int) + 1)) := fun S => rfl
    have es : o.settle = o := by
      rcases List.mem_append.mp ho with ho | ho
      · exact hst o ho
      · simp only [exY, List.mem_cons, List.not_mem_nil, or_false] at ho
        rcases ho with rfl | rfl | rfl <;> rfl
    simp only [eSp, en, wipe, List.foldl_cons, List.foldl_nil, List.set_cons_succ, List.set_cons_zero, ev_bin, ev_slice, eo_none, eo_some, ev_tup, es_cons, es_nil, ev_lit, ev_var, List.getElem?_cons_succ, List.getElem?_cons_zero, QE.R.bind_okS, id, es, int_nv, int_ok, q1, q2, e9, QE.R.of_some, List.length_cons, List.length_nil, Nat.zero_add, l1, if_true, q3, q4]⟩) (fun _ => rfl)
  have q5 : ∀ (L : List Val) (S : Sto), L.length ≤ 200 → QE.bin S .add (.lst false N) (.lst true L) = some (.lst true (N ++ L)) := fun L S hL => by
    simp only [QE.bin, addV, asList]
    rw [if_pos (small_lim (by omega))]
  rw [en] at hv
  simp only [sa4, en, x_asg, ev_bin, ev_var, hv, List.getElem?_cons_succ, List.getElem?_cons_zero, QE.R.bind_okS]
  rw [q5 _ _ (by rw [List.length_map, List.length_append, exY_len]; omega)]
  simp only [QE.R.calm_okS, QE.R.bind_okS, bind_name, set_lst, QE.R.of_some]
  rfl
theorem s7 (ha : 0 ≤ a) (h : VF s p f) (hs : s ≤ 5) (hp : p ≤ 5) {N : List Val} (hN : N.length ≤ 100) (hT : ∀ v ∈ N, TV v) : ∃ (N2 : List Val) (y9 y10 y11 y12 : Option Val) (a' c' : Int), N2.length ≤ 1000 ∧ (∀ v ∈ N2, TV v) ∧ 0 ≤ a' ∧
    execS cx lb7 (en sv x2 (some (nv s)) (some (nv p)) (some (encF s p f)) (some (nv (load s p f))) (some (valT s (gsOf s p f))) (some (.lst false N)) x9 x10 x11 x12 x13 x14 x15 x16 x17 x18 x19 x20) (S1 a c) = .ok (.nx, en sv x2 (some (nv s)) (some (nv p)) (some (encF s p f)) (some (nv (load s p f))) (some (valT s (gsOf s p f))) (some (.lst false N2)) (y9) (y10) (y11) (y12) x13 x14 x15 x16 x17 x18 x19 x20) (S1 a' c') := by
  have l0 : (0 : Nat) ≤ lim := by simp [lim]
  have hL := ld_le h
  have hs1 := h.s1
  by_cases h0 : 0 < load s p f
  · obtain ⟨at_, k, a1, c1, b1, b2, b3, q1⟩ := t1 a c h ha hs h0
    let g := ((gsOf s p f)[at_]?.getD fun _ => none)
    have yl : (ysD s g).length = s := by simp [ysD]
    obtain ⟨q, a2, c2, b4, q2⟩ := t3 a1 c1 b3 ⟨h.p1, hp⟩ (k := k) (Y := ysD s g) (by omega) (by omega)
    let W := ([.non, nv p, .int (-1), .bl true, .str [48], nv q] : List Val).map (swp (ysD s g) k)
    have hWd : ∀ o ∈ W ++ exY (ysD s g), DV o := fun o ho => by
      rcases List.mem_append.mp ho with ho | ho
      · obtain ⟨e, he, rfl⟩ := List.mem_map.mp ho
        refine swp_dv (ysD_flat s g) ?_
        simp only [List.mem_cons, List.not_mem_nil, or_false] at he
        rcases he with rfl | rfl | rfl | rfl | rfl | rfl <;> rfl
      · simp only [exY, List.mem_cons, List.not_mem_nil, or_false] at ho
        rcases ho with rfl | rfl | rfl
        · exact dv_tup (cut_flat (ysD_flat s g))
        · refine dv_tup ?_
          rw [List.all_append, ysD_flat]
          rfl
        · exact ⟨rfl, .inl rfl⟩
    have dl : (D0 s (gsOf s p f)).length ≤ 300 := by simp [D0, gs_len]; omega
    refine ⟨N ++ (W ++ exY (ysD s g)).map (spl (D0 s (gsOf s p f)) at_), some (nv at_), some (nv k), some (.ptup (ysD s g)), some (.lst false W), a2, c2, ?_, ?_, b4, ?_⟩
    rotate_left 2
    · rw [lb7_eq, x_if]
      have e := ne_tab h (S1 a c)
      rw [decide_eq_true h0] at e
      have e0 : evalE cx (.cmp .ne (.var 7) (.tup [])) (en sv x2 (some (nv s)) (some (nv p)) (some (encF s p f)) (some (nv (load s p f))) (some (valT s (gsOf s p f))) (some (.lst false N)) x9 x10 x11 x12 x13 x14 x15 x16 x17 x18 x19 x20) (S1 a c) = .ok (.bl true) (S1 a c) := by
        simp only [en, ev_cmp, ev_var, ev_tup, es_nil, List.getElem?_cons_succ, List.getElem?_cons_zero, QE.R.bind_okS, List.length_nil, l0, if_true, e, QE.R.of_some]
      rw [e0]
      simp only [QE.R.calm_okS, QE.R.bind_okS, bl_ok, if_true]
      exact ss_step (q1 ..) (ss_step (t2 a1 c1 (ht := b1) ..) (ss_step (q2 ..) (ss_step (t4 a2 c2 (hD := dl) (hY := by omega) (hW := by simp) (hN := hN) (hst := fun o ho => (hWd o (List.mem_append_left _ ho)).1) ..) (xs_nil ..))))
    · rw [List.length_append, List.length_map, List.length_append, exY_len]
      simp [W]
      omega
    · intro v hv
      rcases List.mem_append.mp hv with hv | hv
      · exact hT v hv
      · obtain ⟨o, ho, rfl⟩ := List.mem_map.mp hv
        exact spl_tv dl (dv_days _) (hWd o ho)
  · refine ⟨N, x9, x10, x11, x12, a, c, by omega, hT, ha, ?_⟩
    have e := ne_tab h (S1 a c)
    rw [decide_eq_false h0] at e
    simp only [lb7_eq, en, x_if, ev_cmp, ev_var, ev_tup, es_nil, List.getElem?_cons_succ, List.getElem?_cons_zero, QE.R.bind_okS, List.length_nil, l0, if_true, e, QE.R.of_some, QE.R.calm_okS, bl_ok, Bool.false_eq_true, if_false, xs_nil]
end
end K68

set_option linter.all false
set_option maxRecDepth 10000
namespace K68
open QE
section
variable {s p : Nat} {f : Nat → Nat → Nat} {gs : List (Nat → Option Nat)}
def b8 : List Stm := [(.if_ (.not (.call 25 [(.call 18 [(.var 5), (.var 13)]), (.call 28 [(.var 5), (.var 13)])])) [(.ret (.lit (.bl false)))] [])]
def b9 : List Stm := [(.if_ (.not (.call 25 [(.call 21 [(.var 5), (.var 7), (.var 9)]), (.bi .tuple [(.comp [20] (.name 20) (.rng1 (.var 4)) [] (.ite (.cmp .in_ (.var 20) (.var 11)) (.meth .tindex (.var 11) (.var 20)) (.lit .non)))])])) [(.ret (.lit (.bl false)))] [])]
theorem lb8_eq : lb8 = .for_ (.name 13) (.it (.var 8)) b8 := rfl
theorem lb9_eq : lb9 = .for_ (.tup [(.name 9), (.name 11)]) (.enum (.var 7)) b9 := rfl
variable (a c : Int) (sv : Val) (x2 x3 x4 x5 x6 x7 x8 x9 x10 x11 x12 x13 x14 x15 x16 x17 x18 x19 x20 : Option Val)
theorem w8 (h : VF s p f) : ∀ (N : List Val) (x13 : Option Val), (∀ v ∈ N, TV v) → ∃ y13, forLoop (.name 13) (execSs cx b8) N (en sv x2 x3 x4 (some (encF s p f)) x6 x7 x8 x9 x10 x11 x12 x13 x14 x15 x16 x17 x18 x19 x20) (S1 a c) = .ok (.nx, en sv x2 x3 x4 (some (encF s p f)) x6 x7 x8 x9 x10 x11 x12 (y13) x14 x15 x16 x17 x18 x19 x20) (S1 a c)
  | [], x13, _ => ⟨x13, rfl⟩
  | v :: N, x13, hN => by
    obtain ⟨y13, ih⟩ := w8 h N (some v) fun w hw => hN w (List.mem_cons_of_mem _ hw)
    refine ⟨y13, ?_⟩
    have hv := hN v (by simp)
    have e18 : callFn prog 19 18 [encF s p f, v] (S1 a c) = .ok (.bl (tabB s p f v)) (S1 a c) := o18g h hv 14 _
    have e28 : callFn prog 19 28 [encF s p f, v] (S1 a c) = .ok (.bl (tabB s p f v)) (S1 a c) := judge h hv 18 _
    have e25 : callFn prog 19 25 [.bl (tabB s p f v), .bl (tabB s p f v)] (S1 a c) = .ok (.bl true) (S1 a c) := sm_bl 18 _ _
    have st := hv.1
    simp only [forLoop, bind_name, st, en, List.set_cons_succ, List.set_cons_zero, b8, xs_cons, xs_nil, x_if, ev_not, ev_call, es_cons, es_nil, ev_var, List.getElem?_cons_succ, List.getElem?_cons_zero, QE.R.bind_okS, set_encF, set_bl, cxt_call, e18, e28, e25, bl_ok, Bool.not_true, Bool.false_eq_true, if_false, QE.R.calm_okS]
    exact ih
theorem s8 (h : VF s p f) {N : List Val} (hN : ∀ v ∈ N, TV v) : ∃ y13, execS cx lb8 (en sv x2 x3 x4 (some (encF s p f)) x6 x7 (some (.lst false N)) x9 x10 x11 x12 x13 x14 x15 x16 x17 x18 x19 x20) (S1 a c) = .ok (.nx, en sv x2 x3 x4 (some (encF s p f)) x6 x7 (some (.lst false N)) x9 x10 x11 x12 (y13) x14 x15 x16 x17 x18 x19 x20) (S1 a c) := by
  obtain ⟨y13, e⟩ := w8 (x2 := x2) (x3 := x3) (x4 := x4) (x6 := x6) (x7 := x7) (x8 := some (.lst false N)) (x9 := x9) (x10 := x10) (x11 := x11) (x12 := x12) (x14 := x14) (x15 := x15) (x16 := x16) (x17 := x17) (x18 := x18) (x19 := x19) (x20 := x20) (a := a) (c := c) (sv := sv) h N x13 hN
  refine ⟨y13, ?_⟩
  rw [lb8_eq]
  exact x_for (xs := N) (S1 := S1 a c) (by
    simp only [en, sr_it, ev_var, List.getElem?_cons_succ, List.getElem?_cons_zero, QE.R.bind_okS]
    rfl) e
theorem w9 (h : VF s p f) (hp : p ≤ 5) (ht : FT s p f gs) : ∀ (l : List (Nat → Option Nat)) (d : Nat) (x9 x11 : Option Val), gs.drop d = l → ∃ y9 y11, forLoop (.tup [(.name 9), (.name 11)]) (execSs cx b9) (enumFrom d (l.map (valD s))) (en sv x2 x3 (some (nv p)) (some (encF s p f)) x6 (some (valT s gs)) x8 x9 x10 x11 x12 x13 x14 x15 x16 x17 x18 x19 x20) (S1 a c) = .ok (.nx, en sv x2 x3 (some (nv p)) (some (encF s p f)) x6 (some (valT s gs)) x8 (y9) x10 (y11) x12 x13 x14 x15 x16 x17 x18 x19 x20) (S1 a c)
  | [], d, x9, x11, _ => ⟨x9, x11, rfl⟩
  | g :: l, d, x9, x11, hd => by
    have hlt : d < gs.length := by
      have := congrArg List.length hd
      simp at this
      omega
    have hg : gs[d] = g := by
      have := congrArg (fun x => x[0]?) hd
      simp [hlt] at this
      exact this
    obtain ⟨y9, y11, ih⟩ := w9 h hp ht l (d + 1) (some (nv d)) (some (valD s g)) (by rw [← List.drop_drop, hd]; rfl)
    refine ⟨y9, y11, ?_⟩
    have e21 : callFn prog 19 21 [encF s p f, valT s gs, nv d] (S1 a c) = .ok (.tup ((List.range p).map (lentG (ysD s g)))) (S1 a c) := by
      have := o21v h ht hlt 14 (S1 a c)
      rw [hg] at this
      exact this
    have e25 : callFn prog 19 25 [.tup ((List.range p).map (lentG (ysD s g))), .tup ((List.range p).map (lentG (ysD s g)))] (S1 a c) = .ok (.bl true) (S1 a c) := sm_tup 17 _ _ (by simp; omega) fun x hx => by
      obtain ⟨q, _, rfl⟩ := List.mem_map.mp hx
      refine ⟨?_, lentG_st _ _⟩
      unfold lentG
      split
      · exact sm_int 17 _ _
      · exact sm_non 17 _
    have a1 : evalE cx (.comp [20] (.name 20) (.rng1 (.var 4)) [] (.ite (.cmp .in_ (.var 20) (.var 11)) (.meth .tindex (.var 11) (.var 20)) (.lit .non))) (en sv x2 x3 (some (nv p)) (some (encF s p f)) x6 (some (valT s gs)) x8 (some (nv d)) x10 (some (valD s g)) x12 x13 x14 x15 x16 x17 x18 x19 x20) (S1 a c) = .ok (.lst true ((List.range p).map (lentG (ysD s g)))) (S1 a c) := by
      refine ev_compc nv (lentG (ysD s g)) (List.range p) (by
        simp only [en, sr_1, ev_var, List.getElem?_cons_succ, List.getElem?_cons_zero, QE.R.bind_okS, int_nv]
        exact rng_ok _ p (by omega)) (small_lim (by simp; omega)) (fun q hq => ⟨_, by rw [bind_name], ?_⟩) (lentG_st _)
      refine lent_elt (ysD_flat s g) _ _ _ ?_ ?_
      · simp only [en, wipe, List.foldl_cons, List.foldl_nil, List.set_cons_succ, List.set_cons_zero, ev_var, List.getElem?_cons_succ, List.getElem?_cons_zero, QE.R.bind_okS]
        rfl
      · simp only [en, wipe, List.foldl_cons, List.foldl_nil, List.set_cons_succ, List.set_cons_zero, ev_var, List.getElem?_cons_succ, List.getElem?_cons_zero, QE.R.bind_okS, set_nv]
    have tp : ∀ (L : List Val) (S : Sto), callBi S .tuple [.lst false L] = some (.tup L) := fun L S => rfl
    rw [en] at a1
    have nd : (.int (d : Int) : Val) = nv d := rfl
    simp only [List.map_cons, enumFrom, forLoop, bind_tup, binds_cons, binds_nil, bind_name, nd, set_nv, set_valD, en, List.set_cons_succ, List.set_cons_zero, b9, xs_cons, xs_nil, x_if, ev_not, ev_call, ev_bi, es_cons, es_nil, ev_var, List.getElem?_cons_succ, List.getElem?_cons_zero, QE.R.bind_okS, a1, set_encF, set_valT, set_lst, set_tup, tp, QE.R.of_some, cxt_call, e21, e25, bl_ok, Bool.not_true, Bool.false_eq_true, if_false, QE.R.calm_okS]
    exact ih
theorem s9 (h : VF s p f) (hp : p ≤ 5) : ∃ y9 y11, execS cx lb9 (en sv x2 x3 (some (nv p)) (some (encF s p f)) x6 (some (valT s (gsOf s p f))) x8 x9 x10 x11 x12 x13 x14 x15 x16 x17 x18 x19 x20) (S1 a c) = .ok (.nx, en sv x2 x3 (some (nv p)) (some (encF s p f)) x6 (some (valT s (gsOf s p f))) x8 (y9) x10 (y11) x12 x13 x14 x15 x16 x17 x18 x19 x20) (S1 a c) := by
  obtain ⟨y9, y11, e⟩ := w9 (x2 := x2) (x3 := x3) (x6 := x6) (x8 := x8) (x10 := x10) (x12 := x12) (x13 := x13) (x14 := x14) (x15 := x15) (x16 := x16) (x17 := x17) (x18 := x18) (x19 := x19) (x20 := x20) (a := a) (c := c) (sv := sv) h hp (tab_fit h) _ 0 x9 x11 rfl
  refine ⟨y9, y11, ?_⟩
  rw [lb9_eq]
  exact x_for (xs := enumFrom 0 ((gsOf s p f).map (valD s))) (S1 := S1 a c) (by
    simp only [en, sr_enum, ev_var, List.getElem?_cons_succ, List.getElem?_cons_zero, QE.R.bind_okS]
    rfl) e
end
end K68

set_option linter.all false
set_option maxRecDepth 10000
namespace K68
open QE
section
variable {s p : Nat} {f : Nat → Nat → Nat}
def n1 : Stm := (.if_ (.cmp .lt (.var 14) (.lit (.int 0))) [.cont] [])
def n2 : Stm := (.asg (.name 15) (.call 19 [(.var 5), (.var 14)]))
def n3 : Stm := (.if_ (.or [(.cmp .ne (.cmp .is_ (.var 15) (.lit .non)) (.cmp .ge (.var 14) (.var 6))), (.and [(.cmp .isn (.var 15) (.lit .non)), (.cmp .isn (.call 20 [(.var 5), (.var 14), (.var 15)]) (.lit (.bl true)))])]) [(.ret (.lit (.bl false)))] [])
def n4 : Stm := (.asg (.name 16) (.bin .add (.comp [9] (.name 9) (.rng1 (.var 3)) [] (.tup [(.lit (.str [115, 99, 104, 111, 108, 97, 114])), (.var 9)])) (.comp [9] (.name 9) (.rng1 (.var 4)) [] (.tup [(.lit (.str [112, 105, 101, 99, 101])), (.var 9)]))))
def n5 : Stm := (.asg (.name 17) (.bin .add (.comp [19] (.name 19) (.it (.var 5)) [] (.cmp .gt (.bi .sum [(.var 19)]) (.var 14))) (.comp [9] (.name 9) (.rng1 (.var 4)) [] (.cmp .gt (.bi .sum [(.comp [19] (.name 19) (.it (.var 5)) [] (.idx (.var 19) (.var 9)))]) (.var 14)))))
def n6 : Stm := (.if_ (.cmp .ne (.comp [19] (.name 19) (.it (.var 16)) [] (.call 20 [(.var 5), (.var 14), (.var 19)])) (.var 17)) [(.ret (.lit (.bl false)))] [])
def ob : List Stm := [(.if_ (.cmp .isn (.call 20 [(.var 5), (.var 14), (.var 18)]) (.lit (.bl false))) [(.ret (.lit (.bl false)))] [])]
def oE : E := (.tup [(.lit .non), (.tup []), (.tup [(.lit (.str [115, 99, 104, 111, 108, 97, 114]))]), (.tup [(.lit (.str [115, 99, 104, 111, 108, 97, 114])), (.var 3)]), (.tup [(.lit (.str [112, 105, 101, 99, 101])), (.var 4)]), (.tup [(.lit (.str [112, 105, 101, 99, 101])), (.neg (.lit (.int 1)))]), (.tup [(.lit (.str [98, 111, 111, 107])), (.lit (.int 0))]), (.list [(.lit (.str [112, 105, 101, 99, 101])), (.lit (.int 0))]), (.tup [(.lit (.str [112, 105, 101, 99, 101])), (.lit (.bl true))]), (.tup [(.lit .non), (.lit (.int 0))]), (.tup [(.list [(.lit (.str [112, 105, 101, 99, 101]))]), (.lit (.int 0))])])
def b10 : List Stm := [n1, n2, n3, n4, n5, n6, .for_ (.name 18) (.it oE) ob]
def nE : E := (.tup [(.lit (.int 0)), (.bin .sub (.var 6) (.lit (.int 1))), (.var 6), (.bin .add (.var 6) (.lit (.int 1))), (.lit (.int 1000))])
theorem lb10_eq : lb10 = .for_ (.name 14) (.it nE) b10 := rfl
variable (a c : Int) (sv : Val) (x2 x3 x4 x5 x6 x7 x8 x9 x10 x11 x12 x13 x14 x15 x16 x17 x18 x19 x20 : Option Val) {n : Int}
theorem told_st (s p : Nat) (f : Nat → Nat → Nat) (n : Int) : (tolV s p f n).settle = tolV s p f n := by
  unfold tolV
  split
  · rfl
  · exact set_encQ _
theorem r1 (h0 : 0 ≤ n) : execS cx n1 (en sv x2 (some (nv s)) (some (nv p)) (some (encF s p f)) (some (nv (load s p f))) x7 x8 x9 x10 x11 x12 x13 (some (.int n)) x15 x16 x17 x18 x19 x20) (S1 a c) = .ok (.nx, en sv x2 (some (nv s)) (some (nv p)) (some (encF s p f)) (some (nv (load s p f))) x7 x8 x9 x10 x11 x12 x13 (some (.int n)) x15 x16 x17 x18 x19 x20) (S1 a c) := by
  have e : ∀ S : Sto, QE.cmp S .lt (.int n) (.int 0) = some false := fun S => by
    simp [QE.cmp, ltVal]
    omega
  simp only [n1, en, x_if, ev_cmp, ev_var, ev_lit, List.getElem?_cons_succ, List.getElem?_cons_zero, QE.R.bind_okS, e, QE.R.of_some, QE.R.calm_okS, bl_ok, Bool.false_eq_true, if_false, xs_nil]
theorem r2 (h : VF s p f) (h0 : 0 ≤ n) (h1 : n ≤ 1000) : execS cx n2 (en sv x2 (some (nv s)) (some (nv p)) (some (encF s p f)) (some (nv (load s p f))) x7 x8 x9 x10 x11 x12 x13 (some (.int n)) x15 x16 x17 x18 x19 x20) (S1 a c) = .ok (.nx, en sv x2 (some (nv s)) (some (nv p)) (some (encF s p f)) (some (nv (load s p f))) x7 x8 x9 x10 x11 x12 x13 (some (.int n)) (some (tolV s p f n)) x16 x17 x18 x19 x20) (S1 a c) := by
  have e : callFn prog 19 19 [encF s p f, .int n] (S1 a c) = .ok (tolV s p f n) (S1 a c) := barto h h0 h1 14 _
  simp only [n2, en, x_asg, ev_call, es_cons, es_nil, ev_var, List.getElem?_cons_succ, List.getElem?_cons_zero, QE.R.bind_okS, set_encF, set_int, cxt_call, e, QE.R.calm_okS, bind_name, told_st, QE.R.of_some, List.set_cons_succ, List.set_cons_zero]
theorem r3 (h : VF s p f) (h0 : 0 ≤ n) (h1 : n ≤ 1000) : execS cx n3 (en sv x2 (some (nv s)) (some (nv p)) (some (encF s p f)) (some (nv (load s p f))) x7 x8 x9 x10 x11 x12 x13 (some (.int n)) (some (tolV s p f n)) x16 x17 x18 x19 x20) (S1 a c) = .ok (.nx, en sv x2 (some (nv s)) (some (nv p)) (some (encF s p f)) (some (nv (load s p f))) x7 x8 x9 x10 x11 x12 x13 (some (.int n)) (some (tolV s p f n)) x16 x17 x18 x19 x20) (S1 a c) := by
  have tn := told_non s p f h0
  have ge : ∀ S : Sto, QE.cmp S .ge (.int n) (nv (load s p f)) = some (decide ((load s p f : Int) ≤ n)) := fun S => rfl
  have nb : ∀ (x : Bool) (S : Sto), QE.cmp S .ne (.bl x) (.bl x) = some false := fun x S => by cases x <;> simp [QE.cmp, eqVal, res, Val.chk, Val.eqv, nt]
  cases hf : (rk s p).filter fun q => decide (n < ldQ s p f q) with
  | nil =>
    have tv : tolV s p f n = .non := by unfold tolV; rw [hf]
    rw [decide_eq_true (tn.mp hf)] at ge
    have i1 : ∀ S : Sto, QE.cmp S .is_ .non .non = some true := fun S => rfl
    have i2 : ∀ S : Sto, QE.cmp S .isn .non .non = some false := fun S => rfl
    simp only [n3, en, tv, x_if, ev_or, eor_cons, eor_nil, ev_and, ea_cons, ea_nil, ev_cmp, ev_var, ev_lit, List.getElem?_cons_succ, List.getElem?_cons_zero, QE.R.bind_okS, i1, i2, ge, nb, QE.R.of_some, QE.R.calm_okS, bl_ok, Bool.false_eq_true, if_false, if_true, xs_nil]
  | cons q l =>
    have tv : tolV s p f n = encQ q := by unfold tolV; rw [hf]
    have hq : q ∈ (rk s p).filter fun q => decide (n < ldQ s p f q) := by rw [hf]; simp
    obtain ⟨hq1, hq2⟩ := List.mem_filter.mp hq
    have nl : ¬ ((load s p f : Int) ≤ n) := fun z => by
      have := tn.mpr z
      rw [hf] at this
      cases this
    rw [decide_eq_false nl] at ge
    have e20 : callFn prog 19 20 [encF s p f, .int n, encQ q] (S1 a c) = .ok (.bl true) (S1 a c) := by
      have := isbar h hq1 h0 h1 14 (S1 a c)
      rw [hq2] at this
      exact this
    have i1 : ∀ S : Sto, QE.cmp S .is_ (encQ q) .non = some false := fun S => rfl
    have i2 : ∀ S : Sto, QE.cmp S .isn (encQ q) .non = some true := fun S => rfl
    have i3 : ∀ S : Sto, QE.cmp S .isn (.bl true) (.bl true) = some false := fun S => rfl
    simp only [n3, en, tv, x_if, ev_or, eor_cons, eor_nil, ev_and, ea_cons, ea_nil, ev_cmp, ev_call, es_cons, es_nil, ev_var, ev_lit, List.getElem?_cons_succ, List.getElem?_cons_zero, QE.R.bind_okS, i1, i2, i3, ge, nb, set_encF, set_int, set_encQ, cxt_call, e20, QE.R.of_some, QE.R.calm_okS, bl_ok, Bool.false_eq_true, if_false, if_true, xs_nil]
theorem r4 (hs : s ≤ 5) (hp : p ≤ 5) : execS cx n4 (en sv x2 (some (nv s)) (some (nv p)) (some (encF s p f)) (some (nv (load s p f))) x7 x8 x9 x10 x11 x12 x13 (some (.int n)) (some (tolV s p f n)) x16 x17 x18 x19 x20) (S1 a c) = .ok (.nx, en sv x2 (some (nv s)) (some (nv p)) (some (encF s p f)) (some (nv (load s p f))) x7 x8 x9 x10 x11 x12 x13 (some (.int n)) (some (tolV s p f n)) (some (.lst false ((rk s p).map encQ))) x17 x18 x19 x20) (S1 a c) := by
  have e := rows_ev (s := s) (p := p) (by omega) (by omega) cx (en sv x2 (some (nv s)) (some (nv p)) (some (encF s p f)) (some (nv (load s p f))) x7 x8 x9 x10 x11 x12 x13 (some (.int n)) (some (tolV s p f n)) x16 x17 x18 x19 x20) (S1 a c) (es := .var 3) (ep := .var 4) 9 (by
    simp only [en, sr_1, ev_var, List.getElem?_cons_succ, List.getElem?_cons_zero, QE.R.bind_okS, int_nv]
    exact rng_ok _ s (by omega)) (by
    simp only [en, sr_1, ev_var, List.getElem?_cons_succ, List.getElem?_cons_zero, QE.R.bind_okS, int_nv]
    exact rng_ok _ p (by omega)) (fun x => rfl)
  simp only [n4, x_asg, e, QE.R.calm_okS, QE.R.bind_okS, bind_name, set_lst, QE.R.of_some]
  rfl
theorem r5 (h : VF s p f) (hs : s ≤ 5) (hp : p ≤ 5) : execS cx n5 (en sv x2 (some (nv s)) (some (nv p)) (some (encF s p f)) (some (nv (load s p f))) x7 x8 x9 x10 x11 x12 x13 (some (.int n)) (some (tolV s p f n)) (some (.lst false ((rk s p).map encQ))) x17 x18 x19 x20) (S1 a c) = .ok (.nx, en sv x2 (some (nv s)) (some (nv p)) (some (encF s p f)) (some (nv (load s p f))) x7 x8 x9 x10 x11 x12 x13 (some (.int n)) (some (tolV s p f n)) (some (.lst false ((rk s p).map encQ))) (some (.lst false ((rk s p).map fun q => .bl (decide (n < ldQ s p f q))))) x18 x19 x20) (S1 a c) := by
  have gt : ∀ (m : Nat) (S : Sto), QE.cmp S .gt (nv m) (.int n) = some (decide (n < (m : Int))) := fun m S => rfl
  have a1 : evalE cx (.comp [19] (.name 19) (.it (.var 5)) [] (.cmp .gt (.bi .sum [(.var 19)]) (.var 14))) (en sv x2 (some (nv s)) (some (nv p)) (some (encF s p f)) (some (nv (load s p f))) x7 x8 x9 x10 x11 x12 x13 (some (.int n)) (some (tolV s p f n)) (some (.lst false ((rk s p).map encQ))) x17 x18 x19 x20) (S1 a c) = .ok (.lst true ((List.range s).map fun i => .bl (decide (n < ldQ s p f (true, i))))) (S1 a c) := by
    refine ev_compc (fun r => rowV p (f r)) (fun i => .bl (decide (n < ldQ s p f (true, i)))) (List.range s) (walk_enc _ _ _ (by simp only [en, ev_var, List.getElem?_cons_succ, List.getElem?_cons_zero])) (small_lim (by simp; omega)) (fun i hi => ⟨_, by rw [bind_name], ?_⟩) (fun _ => rfl)
    simp only [en, wipe, List.foldl_cons, List.foldl_nil, List.set_cons_succ, List.set_cons_zero, ev_cmp, ev_bi, es_cons, es_nil, ev_var, List.getElem?_cons_succ, List.getElem?_cons_zero, QE.R.bind_okS, set_rowV, sum_rowV, QE.R.of_some, gt]
    rfl
  have a4 : evalE cx (.comp [9] (.name 9) (.rng1 (.var 4)) [] (.cmp .gt (.bi .sum [(.comp [19] (.name 19) (.it (.var 5)) [] (.idx (.var 19) (.var 9)))]) (.var 14))) (en sv x2 (some (nv s)) (some (nv p)) (some (encF s p f)) (some (nv (load s p f))) x7 x8 x9 x10 x11 x12 x13 (some (.int n)) (some (tolV s p f n)) (some (.lst false ((rk s p).map encQ))) x17 x18 x19 x20) (S1 a c) = .ok (.lst true ((List.range p).map fun i => .bl (decide (n < ldQ s p f (false, i))))) (S1 a c) := by
    refine ev_compc nv (fun i => .bl (decide (n < ldQ s p f (false, i)))) (List.range p) (by
      simp only [en, sr_1, ev_var, List.getElem?_cons_succ, List.getElem?_cons_zero, QE.R.bind_okS, int_nv]
      exact rng_ok _ p (by omega)) (small_lim (by simp; omega)) (fun i hi => ⟨_, by rw [bind_name], ?_⟩) (fun _ => rfl)
    rw [ev_cmp, csum h (List.mem_range.mp hi) _ _ _ 19 9 5 rfl rfl (fun v => ⟨rfl, rfl⟩)]
    simp only [en, wipe, List.foldl_cons, List.foldl_nil, List.set_cons_succ, List.set_cons_zero, ev_var, List.getElem?_cons_succ, List.getElem?_cons_zero, QE.R.bind_okS, QE.R.of_some, gt]
    rfl
  have b1 : ∀ (X Y : List Val) (S : Sto), X.length = s → Y.length = p → QE.bin S .add (.lst true X) (.lst true Y) = some (.lst true (X ++ Y)) := fun X Y S hx hy => by
    simp only [QE.bin, addV, asList]
    rw [if_pos (small_lim (by omega))]
  simp only [n5, x_asg, ev_bin, a1, a4, QE.R.bind_okS]
  rw [b1 _ _ _ (by simp) (by simp)]
  simp only [QE.R.of_some, QE.R.calm_okS, QE.R.bind_okS, bind_name, set_lst]
  simp only [rk, List.map_append, List.map_map]
  rfl
theorem eqv_bll {α : Type} (g : α → Bool) : ∀ l : List α, Val.eqvL (l.map fun q => .bl (g q)) (l.map fun q => .bl (g q)) = true
  | [] => by simp [Val.eqvL]
  | x :: l => by
    have := eqv_bll g l
    simp only [List.map_cons, Val.eqvL, this, Val.eqv, Bool.and_true]
    simp
theorem chk_bll {α : Type} (g : α → Bool) : ∀ l : List α, Val.chkL 63 (l.map fun q => .bl (g q)) = true
  | [] => by simp [Val.chkL]
  | x :: l => by
    have := chk_bll g l
    simp only [List.map_cons, Val.chkL, this, Val.chk, Bool.and_true]
theorem ne_bll {α : Type} (g : α → Bool) (l : List α) (S : Sto) : QE.cmp S .ne (.lst true (l.map fun q => .bl (g q))) (.lst false (l.map fun q => .bl (g q))) = some false := by
  simp only [QE.cmp, eqVal, res, Val.chk, chk_bll, Bool.and_self, if_true, Val.eqv, eqv_bll, nt]
  rfl
theorem r6 (h : VF s p f) (hs : s ≤ 5) (hp : p ≤ 5) (h0 : 0 ≤ n) (h1 : n ≤ 1000) : execS cx n6 (en sv x2 (some (nv s)) (some (nv p)) (some (encF s p f)) (some (nv (load s p f))) x7 x8 x9 x10 x11 x12 x13 (some (.int n)) (some (tolV s p f n)) (some (.lst false ((rk s p).map encQ))) (some (.lst false ((rk s p).map fun q => .bl (decide (n < ldQ s p f q))))) x18 x19 x20) (S1 a c) = .ok (.nx, en sv x2 (some (nv s)) (some (nv p)) (some (encF s p f)) (some (nv (load s p f))) x7 x8 x9 x10 x11 x12 x13 (some (.int n)) (some (tolV s p f n)) (some (.lst false ((rk s p).map encQ))) (some (.lst false ((rk s p).map fun q => .bl (decide (n < ldQ s p f q))))) x18 x19 x20) (S1 a c) := by
  have a1 : evalE cx (.comp [19] (.name 19) (.it (.var 16)) [] (.call 20 [(.var 5), (.var 14), (.var 19)])) (en sv x2 (some (nv s)) (some (nv p)) (some (encF s p f)) (some (nv (load s p f))) x7 x8 x9 x10 x11 x12 x13 (some (.int n)) (some (tolV s p f n)) (some (.lst false ((rk s p).map encQ))) (some (.lst false ((rk s p).map fun q => .bl (decide (n < ldQ s p f q))))) x18 x19 x20) (S1 a c) = .ok (.lst true ((rk s p).map fun q => .bl (decide (n < ldQ s p f q)))) (S1 a c) := by
    refine ev_compc encQ (fun q => .bl (decide (n < ldQ s p f q))) (rk s p) (by
      simp only [en, sr_it, ev_var, List.getElem?_cons_succ, List.getElem?_cons_zero, QE.R.bind_okS]
      rfl) (small_lim (by rw [rk_len]; omega)) (fun q hq => ⟨_, by rw [bind_name], ?_⟩) (fun _ => rfl)
    have e := isbar h hq h0 h1 14 (S1 a c)
    simp only [en, wipe, List.foldl_cons, List.foldl_nil, List.set_cons_succ, List.set_cons_zero, ev_call, es_cons, es_nil, ev_var, List.getElem?_cons_succ, List.getElem?_cons_zero, QE.R.bind_okS, set_encF, set_int, set_encQ, cxt_call, e]
  have q := ne_bll (fun q => decide (n < ldQ s p f q)) (rk s p) (S1 a c)
  rw [en] at a1
  simp only [n6, en, x_if, ev_cmp, a1, ev_var, List.getElem?_cons_succ, List.getElem?_cons_zero, QE.R.bind_okS, q, QE.R.of_some, QE.R.calm_okS, bl_ok, Bool.false_eq_true, if_false, xs_nil]
theorem r7 (h : VF s p f) (h0 : 0 ≤ n) (h1 : n ≤ 1000) : ∀ (l : List Val) (x18 : Option Val), (∀ v ∈ l, v ∈ oddB s p) → ∃ y18, forLoop (.name 18) (execSs cx ob) l (en sv x2 (some (nv s)) (some (nv p)) (some (encF s p f)) (some (nv (load s p f))) x7 x8 x9 x10 x11 x12 x13 (some (.int n)) (some (tolV s p f n)) (some (.lst false ((rk s p).map encQ))) (some (.lst false ((rk s p).map fun q => .bl (decide (n < ldQ s p f q))))) x18 x19 x20) (S1 a c) = .ok (.nx, en sv x2 (some (nv s)) (some (nv p)) (some (encF s p f)) (some (nv (load s p f))) x7 x8 x9 x10 x11 x12 x13 (some (.int n)) (some (tolV s p f n)) (some (.lst false ((rk s p).map encQ))) (some (.lst false ((rk s p).map fun q => .bl (decide (n < ldQ s p f q))))) (y18) x19 x20) (S1 a c)
  | [], x18, _ => ⟨x18, rfl⟩
  | v :: l, x18, hl => by
    obtain ⟨y18, ih⟩ := r7 h h0 h1 l (some v) fun w hw => hl w (List.mem_cons_of_mem _ hw)
    refine ⟨y18, ?_⟩
    have hv := hl v (by simp)
    have st := (odd_bar h v hv).1
    have e20 : callFn prog 19 20 [encF s p f, .int n, v] (S1 a c) = .ok (.bl false) (S1 a c) := isbar_odd h hv h0 h1 14 _
    have i3 : ∀ S : Sto, QE.cmp S .isn (.bl false) (.bl false) = some false := fun S => rfl
    simp only [forLoop, bind_name, st, en, List.set_cons_succ, List.set_cons_zero, ob, xs_cons, xs_nil, x_if, ev_cmp, ev_call, ev_lit, es_cons, es_nil, ev_var, List.getElem?_cons_succ, List.getElem?_cons_zero, QE.R.bind_okS, set_encF, set_int, cxt_call, e20, i3, bl_ok, QE.R.of_some, Bool.false_eq_true, if_false, QE.R.calm_okS]
    exact ih
theorem r7s (h : VF s p f) (h0 : 0 ≤ n) (h1 : n ≤ 1000) : ∃ y18, execS cx (.for_ (.name 18) (.it oE) ob) (en sv x2 (some (nv s)) (some (nv p)) (some (encF s p f)) (some (nv (load s p f))) x7 x8 x9 x10 x11 x12 x13 (some (.int n)) (some (tolV s p f n)) (some (.lst false ((rk s p).map encQ))) (some (.lst false ((rk s p).map fun q => .bl (decide (n < ldQ s p f q))))) x18 x19 x20) (S1 a c) = .ok (.nx, en sv x2 (some (nv s)) (some (nv p)) (some (encF s p f)) (some (nv (load s p f))) x7 x8 x9 x10 x11 x12 x13 (some (.int n)) (some (tolV s p f n)) (some (.lst false ((rk s p).map encQ))) (some (.lst false ((rk s p).map fun q => .bl (decide (n < ldQ s p f q))))) (y18) x19 x20) (S1 a c) := by
  obtain ⟨y18, e⟩ := r7 (x2 := x2) (x7 := x7) (x8 := x8) (x9 := x9) (x10 := x10) (x11 := x11) (x12 := x12) (x13 := x13) (x19 := x19) (x20 := x20) (a := a) (c := c) (sv := sv) h h0 h1 (oddB s p) x18 (fun v hv => hv)
  refine ⟨y18, ?_⟩
  have l0 : (0 : Nat) ≤ lim := by simp [lim]
  have l1 : (1 : Nat) ≤ lim := by simp [lim]
  have l2 : (2 : Nat) ≤ lim := by simp [lim]
  have l11 : (11 : Nat) ≤ lim := by simp [lim]
  exact x_for (xs := oddB s p) (S1 := S1 a c) (by
    simp only [en, sr_it, oE, ev_tup, ev_list, es_cons, es_nil, ev_lit, ev_neg, ev_var, List.getElem?_cons_succ, List.getElem?_cons_zero, QE.R.bind_okS, int_ok, set_non, set_nv, set_int, set_bl, set_str, set_tup, set_lst, List.length_cons, List.length_nil, Nat.zero_add, Nat.reduceAdd, l0, l1, l2, l11, if_true]
    rfl) e
theorem r10 (h : VF s p f) (hs : s ≤ 5) (hp : p ≤ 5) : ∀ (l : List Int) (x9 x14 x15 x16 x17 x18 x19 : Option Val), (∀ n ∈ l, n ≤ 1000) → ∃ y9 y14 y15 y16 y17 y18 y19, forLoop (.name 14) (execSs cx b10) (l.map .int) (en sv x2 (some (nv s)) (some (nv p)) (some (encF s p f)) (some (nv (load s p f))) x7 x8 x9 x10 x11 x12 x13 x14 x15 x16 x17 x18 x19 x20) (S1 a c) = .ok (.nx, en sv x2 (some (nv s)) (some (nv p)) (some (encF s p f)) (some (nv (load s p f))) x7 x8 (y9) x10 x11 x12 x13 (y14) (y15) (y16) (y17) (y18) (y19) x20) (S1 a c)
  | [], x9, x14, x15, x16, x17, x18, x19, _ => ⟨x9, x14, x15, x16, x17, x18, x19, rfl⟩
  | n :: l, x9, x14, x15, x16, x17, x18, x19, hl => by
    by_cases h0 : 0 ≤ n
    · have h1 : n ≤ 1000 := hl n (by simp)
      obtain ⟨z18, e7⟩ := r7s (x2 := x2) (x7 := x7) (x8 := x8) (x9 := x9) (x10 := x10) (x11 := x11) (x12 := x12) (x13 := x13) (x18 := x18) (x19 := x19) (x20 := x20) (a := a) (c := c) (sv := sv) h h0 h1
      obtain ⟨y9, y14, y15, y16, y17, y18, y19, ih⟩ := r10 h hs hp l x9 (some (.int n)) (some (tolV s p f n)) (some (.lst false ((rk s p).map encQ))) (some (.lst false ((rk s p).map fun q => .bl (decide (n < ldQ s p f q))))) z18 x19 fun m hm => hl m (List.mem_cons_of_mem _ hm)
      refine ⟨y9, y14, y15, y16, y17, y18, y19, ?_⟩
      have st : execSs cx b10 (en sv x2 (some (nv s)) (some (nv p)) (some (encF s p f)) (some (nv (load s p f))) x7 x8 x9 x10 x11 x12 x13 (some (.int n)) x15 x16 x17 x18 x19 x20) (S1 a c) = .ok (.nx, en sv x2 (some (nv s)) (some (nv p)) (some (encF s p f)) (some (nv (load s p f))) x7 x8 x9 x10 x11 x12 x13 (some (.int n)) (some (tolV s p f n)) (some (.lst false ((rk s p).map encQ))) (some (.lst false ((rk s p).map fun q => .bl (decide (n < ldQ s p f q))))) (z18) x19 x20) (S1 a c) :=
        ss_step (r1 (h0 := h0) ..) (ss_step (r2 (h := h) (h0 := h0) (h1 := h1) ..) (ss_step (r3 (h := h) (h0 := h0) (h1 := h1) ..) (ss_step (r4 (hs := hs) (hp := hp) ..) (ss_step (r5 (h := h) (hs := hs) (hp := hp) ..) (ss_step (r6 (h := h) (hs := hs) (hp := hp) (h0 := h0) (h1 := h1) ..) (ss_step e7 (xs_nil ..)))))))
      rw [en] at st
      simp only [List.map_cons, forLoop, bind_name, set_int, en, List.set_cons_succ, List.set_cons_zero, st, QE.R.bind_okS]
      exact ih
    · obtain ⟨y9, y14, y15, y16, y17, y18, y19, ih⟩ := r10 h hs hp l x9 (some (.int n)) x15 x16 x17 x18 x19 fun m hm => hl m (List.mem_cons_of_mem _ hm)
      refine ⟨y9, y14, y15, y16, y17, y18, y19, ?_⟩
      have xc : ∀ (env : Env) (S : Sto), execS cx .cont env S = .ok (.ct, env) S := fun env S => by rw [execS]
      have e : ∀ S : Sto, QE.cmp S .lt (.int n) (.int 0) = some true := fun S => by
        simp [QE.cmp, ltVal]
        omega
      simp only [List.map_cons, forLoop, bind_name, set_int, en, List.set_cons_succ, List.set_cons_zero, b10, xs_cons, n1, x_if, xc, ev_cmp, ev_var, ev_lit, List.getElem?_cons_succ, List.getElem?_cons_zero, QE.R.bind_okS, e, QE.R.of_some, QE.R.calm_okS, bl_ok, if_true]
      exact ih
theorem s10 (h : VF s p f) (hs : s ≤ 5) (hp : p ≤ 5) : ∃ y9 y14 y15 y16 y17 y18 y19, execS cx lb10 (en sv x2 (some (nv s)) (some (nv p)) (some (encF s p f)) (some (nv (load s p f))) x7 x8 x9 x10 x11 x12 x13 x14 x15 x16 x17 x18 x19 x20) (S1 a c) = .ok (.nx, en sv x2 (some (nv s)) (some (nv p)) (some (encF s p f)) (some (nv (load s p f))) x7 x8 (y9) x10 x11 x12 x13 (y14) (y15) (y16) (y17) (y18) (y19) x20) (S1 a c) := by
  have hL := ld_le h
  obtain ⟨y9, y14, y15, y16, y17, y18, y19, e⟩ := r10 (x2 := x2) (x7 := x7) (x8 := x8) (x10 := x10) (x11 := x11) (x12 := x12) (x13 := x13) (x20 := x20) (a := a) (c := c) (sv := sv) h hs hp [0, (load s p f : Int) - 1, (load s p f : Int), (load s p f : Int) + 1, 1000] x9 x14 x15 x16 x17 x18 x19 (by
    intro n hn
    simp only [List.mem_cons, List.not_mem_nil, or_false] at hn
    omega)
  refine ⟨y9, y14, y15, y16, y17, y18, y19, ?_⟩
  rw [lb10_eq]
  have l5 : (5 : Nat) ≤ lim := by simp [lim]
  have ap : ∀ (k : Nat) (S : Sto), QE.bin S .add (nv k) (.int 1) = some (.int ((k : Int) + 1)) := fun k S => rfl
  exact x_for (xs := ([0, (load s p f : Int) - 1, (load s p f : Int), (load s p f : Int) + 1, 1000] : List Int).map .int) (S1 := S1 a c) (by
    simp only [en, sr_it, nE, ev_tup, es_cons, es_nil, ev_lit, ev_bin, ev_var, List.getElem?_cons_succ, List.getElem?_cons_zero, QE.R.bind_okS, sub_one, ap, QE.R.of_some, set_nv, set_int, List.length_cons, List.length_nil, Nat.zero_add, Nat.reduceAdd, l5, if_true]
    rfl) e
end
end K68

set_option linter.all false
set_option maxRecDepth 10000
namespace K68
open QE
/-! ### the end of the law -/
section
variable {s p : Nat} {f : Nat → Nat → Nat}
theorem z2 (a c : Int) (sv : Val) (x2 x3 x4 x5 x6 x7 x8 x9 x10 x11 x12 x13 x14 x15 x16 x17 x18 x19 x20 : Option Val) : execS cx la2 (en sv x2 x3 x4 x5 x6 x7 x8 x9 x10 x11 x12 x13 x14 x15 x16 x17 x18 x19 x20) (S1 a c) = .ok (.rt (.bl true), en sv x2 x3 x4 x5 x6 x7 x8 x9 x10 x11 x12 x13 x14 x15 x16 x17 x18 x19 x20) (S1 a c) := by
  simp only [la2, x_ret, ev_lit, QE.R.calm_okS, QE.R.bind_okS]
end
def IsEn (sv : Val) (e : Env) : Prop := ∃ x2 x3 x4 x5 x6 x7 x8 x9 x10 x11 x12 x13 x14 x15 x16 x17 x18 x19 x20, e = en sv x2 x3 x4 x5 x6 x7 x8 x9 x10 x11 x12 x13 x14 x15 x16 x17 x18 x19 x20
theorem turn (a c : Int) (ha : 0 ≤ a) (sv : Val) (e : Env) (he : IsEn sv e) : ∃ (e' : Env) (a' c' : Int), IsEn sv e' ∧ 0 ≤ a' ∧ execSs cx lawBody e (S1 a c) = .ok (.nx, e') (S1 a' c') := by
  obtain ⟨x2, x3, x4, x5, x6, x7, x8, x9, x10, x11, x12, x13, x14, x15, x16, x17, x18, x19, x20, rfl⟩ := he
  obtain ⟨s, p, a0, c0, hs, hp, h0, q0⟩ := s0 a c ha
  obtain ⟨f, a1, c1, h, h1, q1⟩ := s1 a0 c0 h0 hs hp
  have hg : (gsOf s p f).length ≤ 400 := by
    rw [gs_len]
    have := ld_le h
    omega
  obtain ⟨N, y9, y10, y11, y12, a2, c2, b1, b2, b3, q7⟩ := s7 a1 c1 (x2 := x2) (x9 := x9) (x10 := x10) (x11 := x11) (x12 := x12) (x13 := x13) (x14 := x14) (x15 := x15) (x16 := x16) (x17 := x17) (x18 := x18) (x19 := x19) (x20 := x20) (sv := sv) h1 h hs.2 hp.2 (N := near0 s (gsOf s p f)) (by simp [near0]) (near0_tv hg)
  obtain ⟨y13, q8⟩ := s8 a2 c2 (x2 := x2) (x3 := some (nv s)) (x4 := some (nv p)) (x6 := some (nv (load s p f))) (x7 := some (valT s (gsOf s p f))) (x9 := y9) (x10 := y10) (x11 := y11) (x12 := y12) (x13 := x13) (x14 := x14) (x15 := x15) (x16 := x16) (x17 := x17) (x18 := x18) (x19 := x19) (x20 := x20) (sv := sv) h b2
  obtain ⟨z9, z11, q9⟩ := s9 a2 c2 (x2 := x2) (x3 := some (nv s)) (x6 := some (nv (load s p f))) (x8 := some (.lst false N)) (x9 := y9) (x10 := y10) (x11 := y11) (x12 := y12) (x13 := y13) (x14 := x14) (x15 := x15) (x16 := x16) (x17 := x17) (x18 := x18) (x19 := x19) (x20 := x20) (sv := sv) h hp.2
  obtain ⟨v9, v14, v15, v16, v17, v18, v19, q10⟩ := s10 a2 c2 (x2 := x2) (x7 := some (valT s (gsOf s p f))) (x8 := some (.lst false N)) (x9 := z9) (x10 := y10) (x11 := z11) (x12 := y12) (x13 := y13) (x14 := x14) (x15 := x15) (x16 := x16) (x17 := x17) (x18 := x18) (x19 := x19) (x20 := x20) (sv := sv) h hs.2 hp.2
  refine ⟨en sv x2 (some (nv s)) (some (nv p)) (some (encF s p f)) (some (nv (load s p f))) (some (valT s (gsOf s p f))) (some (.lst false N)) v9 y10 z11 y12 y13 v14 v15 v16 v17 v18 v19 x20, a2, c2, ⟨_, _, _, _, _, _, _, _, _, _, _, _, _, _, _, _, _, _, _, rfl⟩, b3, ?_⟩
  unfold lawBody
  exact ss_step (q0 ..) (ss_step (q1 ..) (ss_step (s2 (h := h) ..) (ss_step (s3 (h := h) (hs := hs.2) (hp := hp.2) ..) (ss_step (s4 (h := h) ..) (ss_step (s5 (h := h) (hs := hs.2) (hp := hp.2) ..) (ss_step (s6 (h := h) (hs := hs.2) ..) (ss_step q7 (ss_step q8 (ss_step q9 (ss_step q10 (xs_nil ..)))))))))))
theorem turns (sv : Val) : ∀ (ts : List Val) (a c : Int) (e : Env), 0 ≤ a → IsEn sv e → ∃ (e' : Env) (a' c' : Int), IsEn sv e' ∧ forLoop (.name 2) (execSs cx lawBody) ts e (S1 a c) = .ok (.nx, e') (S1 a' c')
  | [], a, c, e, ha, he => ⟨e, a, c, he, rfl⟩
  | t :: ts, a, c, e, ha, he => by
    have he2 : IsEn sv (e.set 2 (some t.settle)) := by
      obtain ⟨x2, x3, x4, x5, x6, x7, x8, x9, x10, x11, x12, x13, x14, x15, x16, x17, x18, x19, x20, rfl⟩ := he
      exact ⟨_, _, _, _, _, _, _, _, _, _, _, _, _, _, _, _, _, _, _, rfl⟩
    obtain ⟨e1, a1, c1, g1, g2, g3⟩ := turn a c ha sv _ he2
    obtain ⟨e2, a2, c2, k1, k2⟩ := turns sv ts a1 c1 e1 g2 g1
    exact ⟨e2, a2, c2, k1, by simp only [forLoop, bind_name, g3, QE.R.bind_okS, k2]⟩
theorem law_ok (v : Val) (ns : List Int) (hl : ns.length ≤ 63) (hv : ∀ S, callBi S .list [v.settle] = some (.lst true (ns.map .int))) (hs : v.settle = v) : ∃ S, callFn prog 20 29 [v] sto0 = .ok (.bl true) S := by
  obtain ⟨a, c, ha, hc⟩ := cu 18 v ns hl hv
  obtain ⟨e', a', c', he, hf⟩ := turns v ((List.range 3).map nv) a c (en v none none none none none none none none none none none none none none none none none none none) ha ⟨_, _, _, _, _, _, _, _, _, _, _, _, _, _, _, _, _, _, _, rfl⟩
  obtain ⟨x2, x3, x4, x5, x6, x7, x8, x9, x10, x11, x12, x13, x14, x15, x16, x17, x18, x19, x20, rfl⟩ := he
  refine ⟨sto0, ?_⟩
  rw [run_fn (k := 19) (d := d_law) rfl rfl]
  have hfin : finish 0 (.ok (.rt (.bl true), en v x2 x3 x4 x5 x6 x7 x8 x9 x10 x11 x12 x13 x14 x15 x16 x17 x18 x19 x20) (S1 a' c')) = .ok (.bl true) sto0 := by simp [finish, freeze, freeze1, Val.low, sto0]
  suffices hrun : execSs cx d_law.body [some v, none, none, none, none, none, none, none, none, none, none, none, none, none, none, none, none, none, none, none, none] sto0 = .ok (.rt (.bl true), en v x2 x3 x4 x5 x6 x7 x8 x9 x10 x11 x12 x13 x14 x15 x16 x17 x18 x19 x20) (S1 a' c') from
    (congrArg (finish 0) hrun).trans hfin
  rw [law_body]
  refine ss_step (env' := en v none none none none none none none none none none none none none none none none none none none) (S' := S1 a c) (by
    simp only [la0, x_asg, ev_cell, ev_call, es_cons, es_nil, ev_var, List.getElem?_cons_zero, QE.R.bind_okS, hs, cxt_call, hc, newCell, QE.R.calm_okS, bind_name, set_ref, QE.R.of_some]
    rfl) ?_
  refine ss_step (x_for (xs := (List.range 3).map nv) (S1 := S1 a c) (by
    simp only [sr_1, ev_lit, QE.R.bind_okS, int_ok]
    exact rng_ok _ 3 (by omega)) hf) ?_
  rw [xs_cons, z2 a' c' v x2 x3 x4 x5 x6 x7 x8 x9 x10 x11 x12 x13 x14 x15 x16 x17 x18 x19 x20]
  rfl
theorem told : ∀ ns : List Int, ns.length ≤ 63 → Told (callFn prog 20 29 [.lst false (QE.intVs ns)] sto0) ∧ Told (callFn prog 20 29 [.kls ns] sto0) := fun ns hl =>
  ⟨law_ok _ ns hl (fun S => by simp [callBi, listOf, asSeq, asList, QE.intVs]) rfl, law_ok _ ns hl (fun S => rfl) rfl⟩
end K68

set_option Elab.async false
set_option linter.all false
set_option maxRecDepth 100000
namespace K68
open PySem PySem.Spec PyProof.Rows L2 QE
/-! ### the text by places -/
def topS (i : Nat) : PySem.Stmt := PySem.Challenge.pw_quires_k68_whole_tables_of_days.main.body.getD i (.Pass ⟨0, 0, 0, 0⟩)
def sN (l : List String) : List PySem.Str := l.map PySem.Str.ofString
def bis : List PySem.Str := sN ["abs", "all", "bool", "enumerate", "int", "isinstance", "len", "list", "max", "range", "str", "sum", "tuple"]
def cnames : List PySem.Str := sN ["SCHOLARS", "PIECES", "HOURS"]
def kls : List PySem.Str := sN ["StemmaError", "InvalidCosts", "InvalidPaper", "InvalidNumber"]
def ecl : List PySem.Str := sN []
def n_is_whole : List String := ["value"]
def e_is_whole : Ent := ⟨"is_whole", topS 6, sN n_is_whole, sN (n_is_whole.take 1), none⟩
def n_fits_whole : List String := ["value", "low", "high"]
def e_fits_whole : Ent := ⟨"fits_whole", topS 7, sN n_fits_whole, sN (n_fits_whole.take 3), none⟩
def n_is_tuple_of : List String := ["value", "least", "most"]
def e_is_tuple_of : Ent := ⟨"is_tuple_of", topS 8, sN n_is_tuple_of, sN (n_is_tuple_of.take 3), none⟩
def n_fits_wants : List String := ["value", "row", "one"]
def e_fits_wants : Ent := ⟨"fits_wants", topS 13, sN n_fits_wants, sN (n_fits_wants.take 1), none⟩
def n_need_wants : List String := ["value"]
def e_need_wants : Ent := ⟨"need_wants", topS 14, sN n_need_wants, sN (n_need_wants.take 1), none⟩
def n_column : List String := ["wants", "piece", "row"]
def e_column : Ent := ⟨"column", topS 15, sN n_column, sN (n_column.take 2), none⟩
def n_greatest_load : List String := ["wants", "row", "piece"]
def e_greatest_load : Ent := ⟨"greatest_load", topS 16, sN n_greatest_load, sN (n_greatest_load.take 1), none⟩
def n_fits_table : List String := ["wants", "value", "day", "lent", "scholar", "had", "one", "piece"]
def e_fits_table : Ent := ⟨"fits_table", topS 17, sN n_fits_table, sN (n_fits_table.take 2), none⟩
def n_padded : List String := ["wants", "scholars", "pieces", "load", "size", "square", "scholar", "piece", "at"]
def e_padded : Ent := ⟨"padded", topS 18, sN n_padded, sN (n_padded.take 1), none⟩
def n_step : List String := ["square", "row", "seen", "match", "at"]
def e_step : Ent := ⟨"step", topS 19, sN n_step, sN (n_step.take 4), none⟩
def n_matching : List String := ["square", "match", "row"]
def e_matching : Ent := ⟨"matching", topS 20, sN n_matching, sN (n_matching.take 1), none⟩
def n_days_in : List String := ["wants", "square", "found", "day", "match", "row", "at"]
def e_days_in : Ent := ⟨"days_in", topS 21, sN n_days_in, sN (n_days_in.take 1), none⟩
def n_fits_bar : List String := ["wants", "number", "value", "many", "load"]
def e_fits_bar : Ent := ⟨"fits_bar", topS 22, sN n_fits_bar, sN (n_fits_bar.take 3), none⟩
def n_are_wants : List String := ["value"]
def e_are_wants : Ent := ⟨"are_wants", topS 23, sN n_are_wants, sN (n_are_wants.take 1), none⟩
def n_scholar_days : List String := ["wants", "scholar"]
def e_scholar_days : Ent := ⟨"scholar_days", topS 24, sN n_scholar_days, sN (n_scholar_days.take 2), none⟩
def n_piece_days : List String := ["wants", "piece"]
def e_piece_days : Ent := ⟨"piece_days", topS 25, sN n_piece_days, sN (n_piece_days.take 2), none⟩
def n_fewest_days : List String := ["wants"]
def e_fewest_days : Ent := ⟨"fewest_days", topS 26, sN n_fewest_days, sN (n_fewest_days.take 1), none⟩
def n_day_table : List String := ["wants"]
def e_day_table : Ent := ⟨"day_table", topS 27, sN n_day_table, sN (n_day_table.take 1), none⟩
def n_is_day_table : List String := ["wants", "value"]
def e_is_day_table : Ent := ⟨"is_day_table", topS 28, sN n_is_day_table, sN (n_is_day_table.take 2), none⟩
def n_bar_to : List String := ["wants", "number", "rows", "found", "row", "at"]
def e_bar_to : Ent := ⟨"bar_to", topS 29, sN n_bar_to, sN (n_bar_to.take 2), none⟩
def n_is_bar_to : List String := ["wants", "number", "value"]
def e_is_bar_to : Ent := ⟨"is_bar_to", topS 30, sN n_is_bar_to, sN (n_is_bar_to.take 3), none⟩
def n_lent_on : List String := ["wants", "table", "day", "piece"]
def e_lent_on : Ent := ⟨"lent_on", topS 31, sN n_lent_on, sN (n_lent_on.take 3), none⟩
def n__law_cup : List String := ["script", "cell"]
def e__law_cup : Ent := ⟨"_law_cup", topS 33, sN n__law_cup, sN (n__law_cup.take 1), none⟩
def n__law_roll : List String := ["cup", "many", "found", "deep"]
def e__law_roll : Ent := ⟨"_law_roll", topS 34, sN n__law_roll, sN (n__law_roll.take 2), none⟩
def n__law_some : List String := ["cup", "things"]
def e__law_some : Ent := ⟨"_law_some", topS 35, sN n__law_some, sN (n__law_some.take 2), none⟩
def n__law_same : List String := ["told", "due", "at"]
def e__law_same : Ent := ⟨"_law_same", topS 36, sN n__law_same, sN (n__law_same.take 2), none⟩
def n__law_wants : List String := ["cup", "scholars", "pieces", "days", "scholar", "piece"]
def e__law_wants : Ent := ⟨"_law_wants", topS 37, sN n__law_wants, sN (n__law_wants.take 4), none⟩
def n__law_load : List String := ["wants", "found", "row", "piece"]
def e__law_load : Ent := ⟨"_law_load", topS 38, sN n__law_load, sN (n__law_load.take 1), none⟩
def n__law_is_table : List String := ["wants", "value", "left", "day", "lent", "scholar", "piece", "row", "days"]
def e__law_is_table : Ent := ⟨"_law_is_table", topS 39, sN n__law_is_table, sN (n__law_is_table.take 2), none⟩
def n_law : List String := ["script", "cup", "turn", "scholars", "pieces", "wants", "load", "table", "near", "at", "scholar", "day", "some", "one", "number", "told", "rows", "due", "odd", "row", "piece"]
def e_law : Ent := ⟨"law", topS 40, sN n_law, sN (n_law.take 1), none⟩
def ents : List Ent := [e_is_whole, e_fits_whole, e_is_tuple_of, e_fits_wants, e_need_wants, e_column, e_greatest_load, e_fits_table, e_padded, e_step, e_matching, e_days_in, e_fits_bar, e_are_wants, e_scholar_days, e_piece_days, e_fewest_days, e_day_table, e_is_day_table, e_bar_to, e_is_bar_to, e_lent_on, e__law_cup, e__law_roll, e__law_some, e__law_same, e__law_wants, e__law_load, e__law_is_table, e_law]
def Gs : List Grd := []
def cf : Cf := { fns := ents.map (·.x), cons := cnames, bis := bis, kls := kls, ecl := ecl, grds := Gs.map (·.g) }
theorem checked : chkAll cf prog.fns ents = true := by decide +kernel
theorem checkedG : chkGs cf ents Gs = true := by decide +kernel
theorem stb : stB prog = true := by decide +kernel
theorem cs_eq : csE ents = [] := rfl
theorem b_is_whole : ∀ (kV doc pm : Value) (an : Option Addr) (cdv ct : Value) (us : List Value), us.length = e_is_whole.ps.length → bindArgs (PySem.W.fnOf e_is_whole.x e_is_whole.x (defArgs e_is_whole.st) (defBody e_is_whole.st) (defScope e_is_whole.st) .none kV doc pm an cdv ct) ⟨us, []⟩ = pure (e_is_whole.ps.zip us) := fun _ _ _ _ _ _ us hl => match us, hl with | [_], _ => rfl
theorem b_fits_whole : ∀ (kV doc pm : Value) (an : Option Addr) (cdv ct : Value) (us : List Value), us.length = e_fits_whole.ps.length → bindArgs (PySem.W.fnOf e_fits_whole.x e_fits_whole.x (defArgs e_fits_whole.st) (defBody e_fits_whole.st) (defScope e_fits_whole.st) .none kV doc pm an cdv ct) ⟨us, []⟩ = pure (e_fits_whole.ps.zip us) := fun _ _ _ _ _ _ us hl => match us, hl with | [_, _, _], _ => rfl
theorem b_is_tuple_of : ∀ (kV doc pm : Value) (an : Option Addr) (cdv ct : Value) (us : List Value), us.length = e_is_tuple_of.ps.length → bindArgs (PySem.W.fnOf e_is_tuple_of.x e_is_tuple_of.x (defArgs e_is_tuple_of.st) (defBody e_is_tuple_of.st) (defScope e_is_tuple_of.st) .none kV doc pm an cdv ct) ⟨us, []⟩ = pure (e_is_tuple_of.ps.zip us) := fun _ _ _ _ _ _ us hl => match us, hl with | [_, _, _], _ => rfl
theorem b_fits_wants : ∀ (kV doc pm : Value) (an : Option Addr) (cdv ct : Value) (us : List Value), us.length = e_fits_wants.ps.length → bindArgs (PySem.W.fnOf e_fits_wants.x e_fits_wants.x (defArgs e_fits_wants.st) (defBody e_fits_wants.st) (defScope e_fits_wants.st) .none kV doc pm an cdv ct) ⟨us, []⟩ = pure (e_fits_wants.ps.zip us) := fun _ _ _ _ _ _ us hl => match us, hl with | [_], _ => rfl
theorem b_need_wants : ∀ (kV doc pm : Value) (an : Option Addr) (cdv ct : Value) (us : List Value), us.length = e_need_wants.ps.length → bindArgs (PySem.W.fnOf e_need_wants.x e_need_wants.x (defArgs e_need_wants.st) (defBody e_need_wants.st) (defScope e_need_wants.st) .none kV doc pm an cdv ct) ⟨us, []⟩ = pure (e_need_wants.ps.zip us) := fun _ _ _ _ _ _ us hl => match us, hl with | [_], _ => rfl
theorem b_column : ∀ (kV doc pm : Value) (an : Option Addr) (cdv ct : Value) (us : List Value), us.length = e_column.ps.length → bindArgs (PySem.W.fnOf e_column.x e_column.x (defArgs e_column.st) (defBody e_column.st) (defScope e_column.st) .none kV doc pm an cdv ct) ⟨us, []⟩ = pure (e_column.ps.zip us) := fun _ _ _ _ _ _ us hl => match us, hl with | [_, _], _ => rfl
theorem b_greatest_load : ∀ (kV doc pm : Value) (an : Option Addr) (cdv ct : Value) (us : List Value), us.length = e_greatest_load.ps.length → bindArgs (PySem.W.fnOf e_greatest_load.x e_greatest_load.x (defArgs e_greatest_load.st) (defBody e_greatest_load.st) (defScope e_greatest_load.st) .none kV doc pm an cdv ct) ⟨us, []⟩ = pure (e_greatest_load.ps.zip us) := fun _ _ _ _ _ _ us hl => match us, hl with | [_], _ => rfl
theorem b_fits_table : ∀ (kV doc pm : Value) (an : Option Addr) (cdv ct : Value) (us : List Value), us.length = e_fits_table.ps.length → bindArgs (PySem.W.fnOf e_fits_table.x e_fits_table.x (defArgs e_fits_table.st) (defBody e_fits_table.st) (defScope e_fits_table.st) .none kV doc pm an cdv ct) ⟨us, []⟩ = pure (e_fits_table.ps.zip us) := fun _ _ _ _ _ _ us hl => match us, hl with | [_, _], _ => rfl
theorem b_padded : ∀ (kV doc pm : Value) (an : Option Addr) (cdv ct : Value) (us : List Value), us.length = e_padded.ps.length → bindArgs (PySem.W.fnOf e_padded.x e_padded.x (defArgs e_padded.st) (defBody e_padded.st) (defScope e_padded.st) .none kV doc pm an cdv ct) ⟨us, []⟩ = pure (e_padded.ps.zip us) := fun _ _ _ _ _ _ us hl => match us, hl with | [_], _ => rfl
theorem b_step : ∀ (kV doc pm : Value) (an : Option Addr) (cdv ct : Value) (us : List Value), us.length = e_step.ps.length → bindArgs (PySem.W.fnOf e_step.x e_step.x (defArgs e_step.st) (defBody e_step.st) (defScope e_step.st) .none kV doc pm an cdv ct) ⟨us, []⟩ = pure (e_step.ps.zip us) := fun _ _ _ _ _ _ us hl => match us, hl with | [_, _, _, _], _ => rfl
theorem b_matching : ∀ (kV doc pm : Value) (an : Option Addr) (cdv ct : Value) (us : List Value), us.length = e_matching.ps.length → bindArgs (PySem.W.fnOf e_matching.x e_matching.x (defArgs e_matching.st) (defBody e_matching.st) (defScope e_matching.st) .none kV doc pm an cdv ct) ⟨us, []⟩ = pure (e_matching.ps.zip us) := fun _ _ _ _ _ _ us hl => match us, hl with | [_], _ => rfl
theorem b_days_in : ∀ (kV doc pm : Value) (an : Option Addr) (cdv ct : Value) (us : List Value), us.length = e_days_in.ps.length → bindArgs (PySem.W.fnOf e_days_in.x e_days_in.x (defArgs e_days_in.st) (defBody e_days_in.st) (defScope e_days_in.st) .none kV doc pm an cdv ct) ⟨us, []⟩ = pure (e_days_in.ps.zip us) := fun _ _ _ _ _ _ us hl => match us, hl with | [_], _ => rfl
theorem b_fits_bar : ∀ (kV doc pm : Value) (an : Option Addr) (cdv ct : Value) (us : List Value), us.length = e_fits_bar.ps.length → bindArgs (PySem.W.fnOf e_fits_bar.x e_fits_bar.x (defArgs e_fits_bar.st) (defBody e_fits_bar.st) (defScope e_fits_bar.st) .none kV doc pm an cdv ct) ⟨us, []⟩ = pure (e_fits_bar.ps.zip us) := fun _ _ _ _ _ _ us hl => match us, hl with | [_, _, _], _ => rfl
theorem b_are_wants : ∀ (kV doc pm : Value) (an : Option Addr) (cdv ct : Value) (us : List Value), us.length = e_are_wants.ps.length → bindArgs (PySem.W.fnOf e_are_wants.x e_are_wants.x (defArgs e_are_wants.st) (defBody e_are_wants.st) (defScope e_are_wants.st) .none kV doc pm an cdv ct) ⟨us, []⟩ = pure (e_are_wants.ps.zip us) := fun _ _ _ _ _ _ us hl => match us, hl with | [_], _ => rfl
theorem b_scholar_days : ∀ (kV doc pm : Value) (an : Option Addr) (cdv ct : Value) (us : List Value), us.length = e_scholar_days.ps.length → bindArgs (PySem.W.fnOf e_scholar_days.x e_scholar_days.x (defArgs e_scholar_days.st) (defBody e_scholar_days.st) (defScope e_scholar_days.st) .none kV doc pm an cdv ct) ⟨us, []⟩ = pure (e_scholar_days.ps.zip us) := fun _ _ _ _ _ _ us hl => match us, hl with | [_, _], _ => rfl
theorem b_piece_days : ∀ (kV doc pm : Value) (an : Option Addr) (cdv ct : Value) (us : List Value), us.length = e_piece_days.ps.length → bindArgs (PySem.W.fnOf e_piece_days.x e_piece_days.x (defArgs e_piece_days.st) (defBody e_piece_days.st) (defScope e_piece_days.st) .none kV doc pm an cdv ct) ⟨us, []⟩ = pure (e_piece_days.ps.zip us) := fun _ _ _ _ _ _ us hl => match us, hl with | [_, _], _ => rfl
theorem b_fewest_days : ∀ (kV doc pm : Value) (an : Option Addr) (cdv ct : Value) (us : List Value), us.length = e_fewest_days.ps.length → bindArgs (PySem.W.fnOf e_fewest_days.x e_fewest_days.x (defArgs e_fewest_days.st) (defBody e_fewest_days.st) (defScope e_fewest_days.st) .none kV doc pm an cdv ct) ⟨us, []⟩ = pure (e_fewest_days.ps.zip us) := fun _ _ _ _ _ _ us hl => match us, hl with | [_], _ => rfl
theorem b_day_table : ∀ (kV doc pm : Value) (an : Option Addr) (cdv ct : Value) (us : List Value), us.length = e_day_table.ps.length → bindArgs (PySem.W.fnOf e_day_table.x e_day_table.x (defArgs e_day_table.st) (defBody e_day_table.st) (defScope e_day_table.st) .none kV doc pm an cdv ct) ⟨us, []⟩ = pure (e_day_table.ps.zip us) := fun _ _ _ _ _ _ us hl => match us, hl with | [_], _ => rfl
theorem b_is_day_table : ∀ (kV doc pm : Value) (an : Option Addr) (cdv ct : Value) (us : List Value), us.length = e_is_day_table.ps.length → bindArgs (PySem.W.fnOf e_is_day_table.x e_is_day_table.x (defArgs e_is_day_table.st) (defBody e_is_day_table.st) (defScope e_is_day_table.st) .none kV doc pm an cdv ct) ⟨us, []⟩ = pure (e_is_day_table.ps.zip us) := fun _ _ _ _ _ _ us hl => match us, hl with | [_, _], _ => rfl
theorem b_bar_to : ∀ (kV doc pm : Value) (an : Option Addr) (cdv ct : Value) (us : List Value), us.length = e_bar_to.ps.length → bindArgs (PySem.W.fnOf e_bar_to.x e_bar_to.x (defArgs e_bar_to.st) (defBody e_bar_to.st) (defScope e_bar_to.st) .none kV doc pm an cdv ct) ⟨us, []⟩ = pure (e_bar_to.ps.zip us) := fun _ _ _ _ _ _ us hl => match us, hl with | [_, _], _ => rfl
theorem b_is_bar_to : ∀ (kV doc pm : Value) (an : Option Addr) (cdv ct : Value) (us : List Value), us.length = e_is_bar_to.ps.length → bindArgs (PySem.W.fnOf e_is_bar_to.x e_is_bar_to.x (defArgs e_is_bar_to.st) (defBody e_is_bar_to.st) (defScope e_is_bar_to.st) .none kV doc pm an cdv ct) ⟨us, []⟩ = pure (e_is_bar_to.ps.zip us) := fun _ _ _ _ _ _ us hl => match us, hl with | [_, _, _], _ => rfl
theorem b_lent_on : ∀ (kV doc pm : Value) (an : Option Addr) (cdv ct : Value) (us : List Value), us.length = e_lent_on.ps.length → bindArgs (PySem.W.fnOf e_lent_on.x e_lent_on.x (defArgs e_lent_on.st) (defBody e_lent_on.st) (defScope e_lent_on.st) .none kV doc pm an cdv ct) ⟨us, []⟩ = pure (e_lent_on.ps.zip us) := fun _ _ _ _ _ _ us hl => match us, hl with | [_, _, _], _ => rfl
theorem b__law_cup : ∀ (kV doc pm : Value) (an : Option Addr) (cdv ct : Value) (us : List Value), us.length = e__law_cup.ps.length → bindArgs (PySem.W.fnOf e__law_cup.x e__law_cup.x (defArgs e__law_cup.st) (defBody e__law_cup.st) (defScope e__law_cup.st) .none kV doc pm an cdv ct) ⟨us, []⟩ = pure (e__law_cup.ps.zip us) := fun _ _ _ _ _ _ us hl => match us, hl with | [_], _ => rfl
theorem b__law_roll : ∀ (kV doc pm : Value) (an : Option Addr) (cdv ct : Value) (us : List Value), us.length = e__law_roll.ps.length → bindArgs (PySem.W.fnOf e__law_roll.x e__law_roll.x (defArgs e__law_roll.st) (defBody e__law_roll.st) (defScope e__law_roll.st) .none kV doc pm an cdv ct) ⟨us, []⟩ = pure (e__law_roll.ps.zip us) := fun _ _ _ _ _ _ us hl => match us, hl with | [_, _], _ => rfl
theorem b__law_some : ∀ (kV doc pm : Value) (an : Option Addr) (cdv ct : Value) (us : List Value), us.length = e__law_some.ps.length → bindArgs (PySem.W.fnOf e__law_some.x e__law_some.x (defArgs e__law_some.st) (defBody e__law_some.st) (defScope e__law_some.st) .none kV doc pm an cdv ct) ⟨us, []⟩ = pure (e__law_some.ps.zip us) := fun _ _ _ _ _ _ us hl => match us, hl with | [_, _], _ => rfl
theorem b__law_same : ∀ (kV doc pm : Value) (an : Option Addr) (cdv ct : Value) (us : List Value), us.length = e__law_same.ps.length → bindArgs (PySem.W.fnOf e__law_same.x e__law_same.x (defArgs e__law_same.st) (defBody e__law_same.st) (defScope e__law_same.st) .none kV doc pm an cdv ct) ⟨us, []⟩ = pure (e__law_same.ps.zip us) := fun _ _ _ _ _ _ us hl => match us, hl with | [_, _], _ => rfl
theorem b__law_wants : ∀ (kV doc pm : Value) (an : Option Addr) (cdv ct : Value) (us : List Value), us.length = e__law_wants.ps.length → bindArgs (PySem.W.fnOf e__law_wants.x e__law_wants.x (defArgs e__law_wants.st) (defBody e__law_wants.st) (defScope e__law_wants.st) .none kV doc pm an cdv ct) ⟨us, []⟩ = pure (e__law_wants.ps.zip us) := fun _ _ _ _ _ _ us hl => match us, hl with | [_, _, _, _], _ => rfl
theorem b__law_load : ∀ (kV doc pm : Value) (an : Option Addr) (cdv ct : Value) (us : List Value), us.length = e__law_load.ps.length → bindArgs (PySem.W.fnOf e__law_load.x e__law_load.x (defArgs e__law_load.st) (defBody e__law_load.st) (defScope e__law_load.st) .none kV doc pm an cdv ct) ⟨us, []⟩ = pure (e__law_load.ps.zip us) := fun _ _ _ _ _ _ us hl => match us, hl with | [_], _ => rfl
theorem b__law_is_table : ∀ (kV doc pm : Value) (an : Option Addr) (cdv ct : Value) (us : List Value), us.length = e__law_is_table.ps.length → bindArgs (PySem.W.fnOf e__law_is_table.x e__law_is_table.x (defArgs e__law_is_table.st) (defBody e__law_is_table.st) (defScope e__law_is_table.st) .none kV doc pm an cdv ct) ⟨us, []⟩ = pure (e__law_is_table.ps.zip us) := fun _ _ _ _ _ _ us hl => match us, hl with | [_, _], _ => rfl
theorem b_law : ∀ (kV doc pm : Value) (an : Option Addr) (cdv ct : Value) (us : List Value), us.length = e_law.ps.length → bindArgs (PySem.W.fnOf e_law.x e_law.x (defArgs e_law.st) (defBody e_law.st) (defScope e_law.st) .none kV doc pm an cdv ct) ⟨us, []⟩ = pure (e_law.ps.zip us) := fun _ _ _ _ _ _ us hl => match us, hl with | [_], _ => rfl
end K68
open PySem PySem.W PyProof.Rows
set_option maxHeartbeats 0 in
theorem PySem.Challenge.cw_quires_k68_whole_tables_of_days_holds : PySem.Challenge.rw_quires_k68_whole_tables_of_days.Holds := by
  w_on; o_law; k_head; (case hw => w_witness2)
  k_fill
  refine LamX.walk_ofTs (l := PySem.Challenge.rw_quires_k68_whole_tables_of_days) (n := 63) (k := 60) (x := "script") (CX := fun w => L2N.CX PySem.Challenge.rw_quires_k68_whole_tables_of_days.prog w) rfl (by decide) rfl ⟨rfl, by decide, by decide⟩ (fun w h Y => PySem.W.kIn_of Y) ?F (fun _ _ _ _ _ z => ?Z)
  case Z => exact QE.cx_no z
  case F =>
    intro w mg fa h Y KX G hmg
    have KT : ∀ P : Addr, P ∈ ([] : List Addr) → h.get? P = some (tabObj #[]) := fun P hP => by cases hP
    have CF0 := QE.clsF_at (C := 24) KX (by k_exc) (by k_is) (by k_is) (by k_is) (by k_is) (by k_is) (by k_is) (by k_is) (by k_is) (by k_is)
    have CF1 := QE.clsF_at (C := 37) KX (by k_exc) (by k_is) (by k_is) (by k_is) (by k_is) (by k_is) (by k_is) (by k_is) (by k_is) (by k_is)
    have CF2 := QE.clsF_at (C := 49) KX (by k_exc) (by k_is) (by k_is) (by k_is) (by k_is) (by k_is) (by k_is) (by k_is) (by k_is) (by k_is)
    have CF3 := QE.clsF_at (C := 61) KX (by k_exc) (by k_is) (by k_is) (by k_is) (by k_is) (by k_is) (by k_is) (by k_is) (by k_is) (by k_is)
    refine' QE.fin_all (PG := K68.prog) (es := K68.ents) (Gs := K68.Gs) (cf := K68.cf) (k := 20) (f := 29) (e := K68.e_law) (st0 := K68.sto0) KX hmg rfl rfl K68.checked K68.checkedG K68.stb (fun G hG => by cases hG)
      ⟨QE.lie_mk (x := "is_whole") (st := K68.topS 6) (N := K68.sN K68.n_is_whole) (ps := K68.sN (K68.n_is_whole.take 1)) (f := 70) (tab := K68.e_is_whole.tab) KX G ?a0 ?l0 ?c0 ?k0 K68.b_is_whole (fun _ _ _ h => by cases h), QE.lie_mk (x := "fits_whole") (st := K68.topS 7) (N := K68.sN K68.n_fits_whole) (ps := K68.sN (K68.n_fits_whole.take 3)) (f := 77) (tab := K68.e_fits_whole.tab) KX G ?a1 ?l1 ?c1 ?k1 K68.b_fits_whole (fun _ _ _ h => by cases h), QE.lie_mk (x := "is_tuple_of") (st := K68.topS 8) (N := K68.sN K68.n_is_tuple_of) (ps := K68.sN (K68.n_is_tuple_of.take 3)) (f := 84) (tab := K68.e_is_tuple_of.tab) KX G ?a2 ?l2 ?c2 ?k2 K68.b_is_tuple_of (fun _ _ _ h => by cases h), QE.lie_mk (x := "fits_wants") (st := K68.topS 13) (N := K68.sN K68.n_fits_wants) (ps := K68.sN (K68.n_fits_wants.take 1)) (f := 89) (tab := K68.e_fits_wants.tab) KX G ?a3 ?l3 ?c3 ?k3 K68.b_fits_wants (fun _ _ _ h => by cases h), QE.lie_mk (x := "need_wants") (st := K68.topS 14) (N := K68.sN K68.n_need_wants) (ps := K68.sN (K68.n_need_wants.take 1)) (f := 96) (tab := K68.e_need_wants.tab) KX G ?a4 ?l4 ?c4 ?k4 K68.b_need_wants (fun _ _ _ h => by cases h), QE.lie_mk (x := "column") (st := K68.topS 15) (N := K68.sN K68.n_column) (ps := K68.sN (K68.n_column.take 2)) (f := 101) (tab := K68.e_column.tab) KX G ?a5 ?l5 ?c5 ?k5 K68.b_column (fun _ _ _ h => by cases h), QE.lie_mk (x := "greatest_load") (st := K68.topS 16) (N := K68.sN K68.n_greatest_load) (ps := K68.sN (K68.n_greatest_load.take 1)) (f := 106) (tab := K68.e_greatest_load.tab) KX G ?a6 ?l6 ?c6 ?k6 K68.b_greatest_load (fun _ _ _ h => by cases h), QE.lie_mk (x := "fits_table") (st := K68.topS 17) (N := K68.sN K68.n_fits_table) (ps := K68.sN (K68.n_fits_table.take 2)) (f := 111) (tab := K68.e_fits_table.tab) KX G ?a7 ?l7 ?c7 ?k7 K68.b_fits_table (fun _ _ _ h => by cases h), QE.lie_mk (x := "padded") (st := K68.topS 18) (N := K68.sN K68.n_padded) (ps := K68.sN (K68.n_padded.take 1)) (f := 116) (tab := K68.e_padded.tab) KX G ?a8 ?l8 ?c8 ?k8 K68.b_padded (fun _ _ _ h => by cases h), QE.lie_mk (x := "step") (st := K68.topS 19) (N := K68.sN K68.n_step) (ps := K68.sN (K68.n_step.take 4)) (f := 123) (tab := K68.e_step.tab) KX G ?a9 ?l9 ?c9 ?k9 K68.b_step (fun _ _ _ h => by cases h), QE.lie_mk (x := "matching") (st := K68.topS 20) (N := K68.sN K68.n_matching) (ps := K68.sN (K68.n_matching.take 1)) (f := 130) (tab := K68.e_matching.tab) KX G ?a10 ?l10 ?c10 ?k10 K68.b_matching (fun _ _ _ h => by cases h), QE.lie_mk (x := "days_in") (st := K68.topS 21) (N := K68.sN K68.n_days_in) (ps := K68.sN (K68.n_days_in.take 1)) (f := 137) (tab := K68.e_days_in.tab) KX G ?a11 ?l11 ?c11 ?k11 K68.b_days_in (fun _ _ _ h => by cases h), QE.lie_mk (x := "fits_bar") (st := K68.topS 22) (N := K68.sN K68.n_fits_bar) (ps := K68.sN (K68.n_fits_bar.take 3)) (f := 144) (tab := K68.e_fits_bar.tab) KX G ?a12 ?l12 ?c12 ?k12 K68.b_fits_bar (fun _ _ _ h => by cases h), QE.lie_mk (x := "are_wants") (st := K68.topS 23) (N := K68.sN K68.n_are_wants) (ps := K68.sN (K68.n_are_wants.take 1)) (f := 151) (tab := K68.e_are_wants.tab) KX G ?a13 ?l13 ?c13 ?k13 K68.b_are_wants (fun _ _ _ h => by cases h), QE.lie_mk (x := "scholar_days") (st := K68.topS 24) (N := K68.sN K68.n_scholar_days) (ps := K68.sN (K68.n_scholar_days.take 2)) (f := 158) (tab := K68.e_scholar_days.tab) KX G ?a14 ?l14 ?c14 ?k14 K68.b_scholar_days (fun _ _ _ h => by cases h), QE.lie_mk (x := "piece_days") (st := K68.topS 25) (N := K68.sN K68.n_piece_days) (ps := K68.sN (K68.n_piece_days.take 2)) (f := 165) (tab := K68.e_piece_days.tab) KX G ?a15 ?l15 ?c15 ?k15 K68.b_piece_days (fun _ _ _ h => by cases h), QE.lie_mk (x := "fewest_days") (st := K68.topS 26) (N := K68.sN K68.n_fewest_days) (ps := K68.sN (K68.n_fewest_days.take 1)) (f := 172) (tab := K68.e_fewest_days.tab) KX G ?a16 ?l16 ?c16 ?k16 K68.b_fewest_days (fun _ _ _ h => by cases h), QE.lie_mk (x := "day_table") (st := K68.topS 27) (N := K68.sN K68.n_day_table) (ps := K68.sN (K68.n_day_table.take 1)) (f := 179) (tab := K68.e_day_table.tab) KX G ?a17 ?l17 ?c17 ?k17 K68.b_day_table (fun _ _ _ h => by cases h), QE.lie_mk (x := "is_day_table") (st := K68.topS 28) (N := K68.sN K68.n_is_day_table) (ps := K68.sN (K68.n_is_day_table.take 2)) (f := 186) (tab := K68.e_is_day_table.tab) KX G ?a18 ?l18 ?c18 ?k18 K68.b_is_day_table (fun _ _ _ h => by cases h), QE.lie_mk (x := "bar_to") (st := K68.topS 29) (N := K68.sN K68.n_bar_to) (ps := K68.sN (K68.n_bar_to.take 2)) (f := 191) (tab := K68.e_bar_to.tab) KX G ?a19 ?l19 ?c19 ?k19 K68.b_bar_to (fun _ _ _ h => by cases h), QE.lie_mk (x := "is_bar_to") (st := K68.topS 30) (N := K68.sN K68.n_is_bar_to) (ps := K68.sN (K68.n_is_bar_to.take 3)) (f := 198) (tab := K68.e_is_bar_to.tab) KX G ?a20 ?l20 ?c20 ?k20 K68.b_is_bar_to (fun _ _ _ h => by cases h), QE.lie_mk (x := "lent_on") (st := K68.topS 31) (N := K68.sN K68.n_lent_on) (ps := K68.sN (K68.n_lent_on.take 3)) (f := 203) (tab := K68.e_lent_on.tab) KX G ?a21 ?l21 ?c21 ?k21 K68.b_lent_on (fun _ _ _ h => by cases h), QE.lie_mk (x := "_law_cup") (st := K68.topS 33) (N := K68.sN K68.n__law_cup) (ps := K68.sN (K68.n__law_cup.take 1)) (f := 210) (tab := K68.e__law_cup.tab) KX G ?a22 ?l22 ?c22 ?k22 K68.b__law_cup (fun _ _ _ h => by cases h), QE.lie_mk (x := "_law_roll") (st := K68.topS 34) (N := K68.sN K68.n__law_roll) (ps := K68.sN (K68.n__law_roll.take 2)) (f := 217) (tab := K68.e__law_roll.tab) KX G ?a23 ?l23 ?c23 ?k23 K68.b__law_roll (fun _ _ _ h => by cases h), QE.lie_mk (x := "_law_some") (st := K68.topS 35) (N := K68.sN K68.n__law_some) (ps := K68.sN (K68.n__law_some.take 2)) (f := 224) (tab := K68.e__law_some.tab) KX G ?a24 ?l24 ?c24 ?k24 K68.b__law_some (fun _ _ _ h => by cases h), QE.lie_mk (x := "_law_same") (st := K68.topS 36) (N := K68.sN K68.n__law_same) (ps := K68.sN (K68.n__law_same.take 2)) (f := 229) (tab := K68.e__law_same.tab) KX G ?a25 ?l25 ?c25 ?k25 K68.b__law_same (fun _ _ _ h => by cases h), QE.lie_mk (x := "_law_wants") (st := K68.topS 37) (N := K68.sN K68.n__law_wants) (ps := K68.sN (K68.n__law_wants.take 4)) (f := 234) (tab := K68.e__law_wants.tab) KX G ?a26 ?l26 ?c26 ?k26 K68.b__law_wants (fun _ _ _ h => by cases h), QE.lie_mk (x := "_law_load") (st := K68.topS 38) (N := K68.sN K68.n__law_load) (ps := K68.sN (K68.n__law_load.take 1)) (f := 239) (tab := K68.e__law_load.tab) KX G ?a27 ?l27 ?c27 ?k27 K68.b__law_load (fun _ _ _ h => by cases h), QE.lie_mk (x := "_law_is_table") (st := K68.topS 39) (N := K68.sN K68.n__law_is_table) (ps := K68.sN (K68.n__law_is_table.take 2)) (f := 244) (tab := K68.e__law_is_table.tab) KX G ?a28 ?l28 ?c28 ?k28 K68.b__law_is_table (fun _ _ _ h => by cases h), QE.lie_mk (x := "law") (st := K68.topS 40) (N := K68.sN K68.n_law) (ps := K68.sN (K68.n_law.take 1)) (f := 249) (tab := K68.e_law.tab) KX G ?a29 ?l29 ?c29 ?k29 K68.b_law (fun _ _ _ h => by cases h), trivial⟩
      ⟨QE.con_mk (.int 10) KX G ?q0 rfl ?r0, QE.con_mk (.int 10) KX G ?q1 rfl ?r1, QE.con_mk (.int 12) KX G ?q2 rfl ?r2, trivial⟩
      ⟨PySem.W.mg_none_of KX G ?z0, PySem.W.mg_none_of KX G ?z1, PySem.W.mg_none_of KX G ?z2, PySem.W.mg_none_of KX G ?z3, PySem.W.mg_none_of KX G ?z4, PySem.W.mg_none_of KX G ?z5, PySem.W.mg_none_of KX G ?z6, PySem.W.mg_none_of KX G ?z7, PySem.W.mg_none_of KX G ?z8, PySem.W.mg_none_of KX G ?z9, PySem.W.mg_none_of KX G ?z10, PySem.W.mg_none_of KX G ?z11, PySem.W.mg_none_of KX G ?z12, trivial⟩
      ⟨PySem.W.mg_of KX G ?a0, PySem.W.mg_of KX G ?a1, PySem.W.mg_of KX G ?a2, PySem.W.mg_of KX G ?a3, PySem.W.mg_of KX G ?a4, PySem.W.mg_of KX G ?a5, PySem.W.mg_of KX G ?a6, PySem.W.mg_of KX G ?a7, PySem.W.mg_of KX G ?a8, PySem.W.mg_of KX G ?a9, PySem.W.mg_of KX G ?a10, PySem.W.mg_of KX G ?a11, PySem.W.mg_of KX G ?a12, PySem.W.mg_of KX G ?a13, PySem.W.mg_of KX G ?a14, PySem.W.mg_of KX G ?a15, PySem.W.mg_of KX G ?a16, PySem.W.mg_of KX G ?a17, PySem.W.mg_of KX G ?a18, PySem.W.mg_of KX G ?a19, PySem.W.mg_of KX G ?a20, PySem.W.mg_of KX G ?a21, PySem.W.mg_of KX G ?a22, PySem.W.mg_of KX G ?a23, PySem.W.mg_of KX G ?a24, PySem.W.mg_of KX G ?a25, PySem.W.mg_of KX G ?a26, PySem.W.mg_of KX G ?a27, PySem.W.mg_of KX G ?a28, PySem.W.mg_of KX G ?a29, trivial⟩
      ⟨⟨PySem.W.mg_of KX G ?m0, CF0⟩, ⟨PySem.W.mg_of KX G ?m1, CF1⟩, ⟨PySem.W.mg_of KX G ?m2, CF2⟩, ⟨PySem.W.mg_of KX G ?m3, CF3⟩, trivial⟩
      trivial
      trivial
      ?sp ?tk rfl rfl rfl (fun _ _ _ _ _ _ _ => rfl) rfl K68.told (by rw [K68.cs_eq]; decide) (by rw [K68.cs_eq]; decide) KT trivial
    (case a0 => k_is)
    (case l0 => k_is)
    (case c0 => k_is)
    (case k0 => k_is)
    (case a1 => k_is)
    (case l1 => k_is)
    (case c1 => k_is)
    (case k1 => k_is)
    (case a2 => k_is)
    (case l2 => k_is)
    (case c2 => k_is)
    (case k2 => k_is)
    (case a3 => k_is)
    (case l3 => k_is)
    (case c3 => k_is)
    (case k3 => k_is)
    (case a4 => k_is)
    (case l4 => k_is)
    (case c4 => k_is)
    (case k4 => k_is)
    (case a5 => k_is)
    (case l5 => k_is)
    (case c5 => k_is)
    (case k5 => k_is)
    (case a6 => k_is)
    (case l6 => k_is)
    (case c6 => k_is)
    (case k6 => k_is)
    (case a7 => k_is)
    (case l7 => k_is)
    (case c7 => k_is)
    (case k7 => k_is)
    (case a8 => k_is)
    (case l8 => k_is)
    (case c8 => k_is)
    (case k8 => k_is)
    (case a9 => k_is)
    (case l9 => k_is)
    (case c9 => k_is)
    (case k9 => k_is)
    (case a10 => k_is)
    (case l10 => k_is)
    (case c10 => k_is)
    (case k10 => k_is)
    (case a11 => k_is)
    (case l11 => k_is)
    (case c11 => k_is)
    (case k11 => k_is)
    (case a12 => k_is)
    (case l12 => k_is)
    (case c12 => k_is)
    (case k12 => k_is)
    (case a13 => k_is)
    (case l13 => k_is)
    (case c13 => k_is)
    (case k13 => k_is)
    (case a14 => k_is)
    (case l14 => k_is)
    (case c14 => k_is)
    (case k14 => k_is)
    (case a15 => k_is)
    (case l15 => k_is)
    (case c15 => k_is)
    (case k15 => k_is)
    (case a16 => k_is)
    (case l16 => k_is)
    (case c16 => k_is)
    (case k16 => k_is)
    (case a17 => k_is)
    (case l17 => k_is)
    (case c17 => k_is)
    (case k17 => k_is)
    (case a18 => k_is)
    (case l18 => k_is)
    (case c18 => k_is)
    (case k18 => k_is)
    (case a19 => k_is)
    (case l19 => k_is)
    (case c19 => k_is)
    (case k19 => k_is)
    (case a20 => k_is)
    (case l20 => k_is)
    (case c20 => k_is)
    (case k20 => k_is)
    (case a21 => k_is)
    (case l21 => k_is)
    (case c21 => k_is)
    (case k21 => k_is)
    (case a22 => k_is)
    (case l22 => k_is)
    (case c22 => k_is)
    (case k22 => k_is)
    (case a23 => k_is)
    (case l23 => k_is)
    (case c23 => k_is)
    (case k23 => k_is)
    (case a24 => k_is)
    (case l24 => k_is)
    (case c24 => k_is)
    (case k24 => k_is)
    (case a25 => k_is)
    (case l25 => k_is)
    (case c25 => k_is)
    (case k25 => k_is)
    (case a26 => k_is)
    (case l26 => k_is)
    (case c26 => k_is)
    (case k26 => k_is)
    (case a27 => k_is)
    (case l27 => k_is)
    (case c27 => k_is)
    (case k27 => k_is)
    (case a28 => k_is)
    (case l28 => k_is)
    (case c28 => k_is)
    (case k28 => k_is)
    (case a29 => k_is)
    (case l29 => k_is)
    (case c29 => k_is)
    (case k29 => k_is)
    (case q0 => k_is)
    (case r0 => exact ⟨_, rfl⟩)
    (case q1 => k_is)
    (case r1 => exact ⟨_, rfl⟩)
    (case q2 => k_is)
    (case r2 => exact ⟨_, rfl⟩)
    (case z0 => k_is)
    (case z1 => k_is)
    (case z2 => k_is)
    (case z3 => k_is)
    (case z4 => k_is)
    (case z5 => k_is)
    (case z6 => k_is)
    (case z7 => k_is)
    (case z8 => k_is)
    (case z9 => k_is)
    (case z10 => k_is)
    (case z11 => k_is)
    (case z12 => k_is)
    (case m0 => k_is)
    (case m1 => k_is)
    (case m2 => k_is)
    (case m3 => k_is)
    (case sp => k_is)
    (case tk => k_is)
