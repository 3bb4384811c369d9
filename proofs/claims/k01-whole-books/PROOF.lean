import PyProof.Rows.All
import Wide.All
import OpenK.AllK
import Wide.FinOn
import HandS.ForMost
import HandS.Walk
import HandS.Zip
import HandS.Deep
import HandS.TupAny
import HandS.TupMul
import HandS.TupLe
import HandS.Style
import HandS.IsInst
import HandS.DictComp
import HandS.Conv
import HandS.Codes
import HandS.Wide
import HandS.RaiseMore
import HandS.SetFor
import KE.GoesMore
import HandS.Words
import HandS.Ends
import PySem.Challenge.RW_quires_k01_whole_books_of_gatherings
/-! A small evaluator for the part of Python that this program and its laws use. Values are plain data; what is changed in place lies in cells of a store. -/
set_option linter.all false
namespace QE

inductive Val where
  | non
  | bl (b : Bool)
  | int (i : Int)
  | str (s : List Nat)
  | tup (xs : List Val)
  /-- a list that is only read from here on; fresh: nobody else knows it yet -/
  | lst (fresh : Bool) (xs : List Val)
  /-- a dict that is only read; t: its keys are tuples -/
  | dic (fresh : Bool) (t : Bool) (kvs : List (Val × Val))
  /-- a cell of the store -/
  | ref (n : Nat)
  /-- a list of ints that the text has written -/
  | kls (is : List Int)
  deriving Inhabited

/-- what a cell holds -/
inductive Ob where
  | lst (xs : List Val)
  | dic (t : Bool) (kvs : List (Val × Val))
  deriving Inhabited

abbrev Sto := List Ob
abbrev Env := List (Option Val)

inductive R (α : Type) where
  | ok (a : α) (S : Sto)
  | exc (c : Nat) (ps : List Val) (S : Sto)
  | bad

def R.bind {α β : Type} (r : R α) (f : α → Sto → R β) : R β := match r with
  | .ok a S => f a S
  | .exc c p S => .exc c p S
  | .bad => .bad
/-- an exception is not let out -/
def R.calm {α : Type} (r : R α) : R α := match r with
  | .ok a S => .ok a S
  | _ => .bad
def R.of {α : Type} (o : Option α) (S : Sto) : R α := match o with
  | some a => .ok a S
  | none => .bad

def Val.settle : Val → Val
  | .lst _ xs => .lst false xs
  | .dic _ t kvs => .dic false t kvs
  | v => v

/-- it is not a value that nobody else knows yet -/
def Val.st : Val → Bool
  | .lst f _ => !f
  | .dic f _ _ => !f
  | _ => true

def lim : Nat := 16777216

/-! ### data: depth, no cells; equality -/
mutual
def Val.chk : Nat → Val → Bool
  | _, .non => true
  | _, .bl _ => true
  | _, .int _ => true
  | _, .str s => s.all (· < 1114112)
  | 0, .tup _ => false
  | d + 1, .tup xs => Val.chkL d xs
  | 0, .lst _ _ => false
  | d + 1, .lst _ xs => Val.chkL d xs
  | _, _ => false
def Val.chkL : Nat → List Val → Bool
  | _, [] => true
  | d, x :: xs => Val.chk d x && Val.chkL d xs
end
mutual
def Val.eqv : Val → Val → Bool
  | .non, .non => true
  | .bl a, .bl b => a == b
  | .bl a, .int b => (if a then 1 else 0) == b
  | .int a, .bl b => a == (if b then 1 else 0)
  | .int a, .int b => a == b
  | .str a, .str b => a == b
  | .tup xs, .tup ys => Val.eqvL xs ys
  | .lst _ xs, .lst _ ys => Val.eqvL xs ys
  | _, _ => false
def Val.eqvL : List Val → List Val → Bool
  | [], [] => true
  | x :: xs, y :: ys => Val.eqv x y && Val.eqvL xs ys
  | _, _ => false
end
/-- a cell's list as it stands -/
def res (S : Sto) (v : Val) : Val := match v with
  | .ref n => (match S[n]? with
    | some (.lst xs) => .lst false xs
    | _ => v)
  | v => v
def eqVal (S : Sto) (x y : Val) : Option Bool :=
  if (res S x).chk 64 && (res S y).chk 64 then some ((res S x).eqv (res S y)) else none

def asList (S : Sto) (v : Val) : Option (List Val) := match v with
  | .lst _ xs => some xs
  | .ref n => (match S[n]? with
    | some (.lst xs) => some xs
    | _ => none)
  | _ => none
def asTup (v : Val) : Option (List Val) := match v with
  | .tup xs => some xs
  | _ => none
def asSeq (S : Sto) (v : Val) : Option (List Val) := match v with
  | .tup xs => some xs
  | v => asList S v

/-! ### keys of dicts -/
def Val.flatKey : Val → Bool
  | .int _ => true
  | .str _ => true
  | _ => false
def Val.isKey (t : Bool) (k : Val) : Bool := if t then (match k with
  | .tup xs => xs.all Val.flatKey
  | _ => false) else k.flatKey
def flatEq : Val → Val → Bool
  | .int a, .int b => a == b
  | .str a, .str b => a == b
  | _, _ => false
def flatEqL : List Val → List Val → Bool
  | [], [] => true
  | x :: xs, y :: ys => flatEq x y && flatEqL xs ys
  | _, _ => false
def keyEq : Val → Val → Bool
  | .tup xs, .tup ys => flatEqL xs ys
  | x, y => flatEq x y
def dGet (k : Val) : List (Val × Val) → Option Val
  | [] => none
  | (q, v) :: r => if keyEq q k then some v else dGet k r
def dHas (k : Val) : List (Val × Val) → Bool
  | [] => false
  | (q, _) :: r => keyEq q k || dHas k r
def dMap (k v : Val) : List (Val × Val) → List (Val × Val)
  | [] => []
  | (q, u) :: r => (if keyEq q k then (q, v) else (q, u)) :: dMap k v r
def dPut (k v : Val) (kvs : List (Val × Val)) : List (Val × Val) := if dHas k kvs then dMap k v kvs else kvs ++ [(k, v)]
def asDic (S : Sto) (v : Val) : Option (Bool × List (Val × Val)) := match v with
  | .dic _ t kvs => some (t, kvs)
  | .ref n => (match S[n]? with
    | some (.dic t kvs) => some (t, kvs)
    | _ => none)
  | _ => none

/-! ### operators -/
inductive BOp where
  | add | sub | mul | fdiv | mod | pow
  deriving DecidableEq
inductive COp where
  | eq | ne | lt | le | gt | ge | in_ | nin | is_ | isn
  deriving DecidableEq

def small (i : Int) : Bool := decide (-(2 ^ 64) < i) && decide (i < 2 ^ 64)
def rep {α : Type} : Nat → List α → List α
  | 0, _ => []
  | n + 1, xs => xs ++ rep n xs

def addV (S : Sto) : Val → Val → Option Val
  | .int a, .int b => some (.int (a + b))
  | .str a, .str b => if a.length + b.length ≤ lim then some (.str (a ++ b)) else none
  | .tup a, .tup b => if a.length + b.length ≤ lim then some (.tup (a ++ b)) else none
  | x, y => (match asList S x, asList S y with
    | some a, some b => if a.length + b.length ≤ lim then some (.lst true (a ++ b)) else none
    | _, _ => none)
def subV (_ : Sto) : Val → Val → Option Val
  | .int a, .int b => some (.int (a - b))
  | _, _ => none
def mulV (_ : Sto) : Val → Val → Option Val
  | .int a, .int b => if small a || small b then some (.int (a * b)) else none
  | .tup a, .int k => if a.isEmpty then none else if 2 ≤ k ∧ k ≤ 1000 ∧ a.length ≤ 1000 then some (.tup (rep k.toNat a)) else none
  | _, _ => none
def fdivV (_ : Sto) : Val → Val → Option Val
  | .int a, .int b => if b ≠ 0 ∧ b.natAbs < 1073741824 then some (.int (a.fdiv b)) else none
  | _, _ => none
def modV (_ : Sto) : Val → Val → Option Val
  | .int a, .int b => if b ≠ 0 then some (.int (a.fmod b)) else none
  | _, _ => none
def powV (_ : Sto) : Val → Val → Option Val
  | .int a, .int b => if 0 ≤ b ∧ b ≤ 1000000 ∧ a.natAbs < 2 ^ 64 then some (.int (a ^ b.toNat)) else none
  | _, _ => none
def bin (S : Sto) : BOp → Val → Val → Option Val
  | .add => addV S
  | .sub => subV S
  | .mul => mulV S
  | .fdiv => fdivV S
  | .mod => modV S
  | .pow => powV S

def lexLt : List Nat → List Nat → Bool
  | [], [] => false
  | [], _ :: _ => true
  | _ :: _, [] => false
  | a :: r, b :: s => if a = b then lexLt r s else decide (a < b)
def ints? : List Val → Option (List Int)
  | [] => some []
  | .int i :: r => (match ints? r with
    | some l => some (i :: l)
    | none => none)
  | _ => none
def lexLtI : List Int → List Int → Bool
  | [], [] => false
  | [], _ :: _ => true
  | _ :: _, [] => false
  | a :: r, b :: s => if a = b then lexLtI r s else decide (a < b)
/-- x < y of ints, of texts, of tuples of ints -/
def ltVal : Val → Val → Option Bool
  | .int a, .int b => some (decide (a < b))
  | .str a, .str b => some (lexLt a b)
  | .tup a, .tup b => (match ints? a, ints? b with
    | some x, some y => some (lexLtI x y)
    | _, _ => none)
  | _, _ => none
def leVal : Val → Val → Option Bool
  | .int a, .int b => some (decide (a ≤ b))
  | _, _ => none
def gtVal : Val → Val → Option Bool
  | .int a, .int b => some (decide (b < a))
  | _, _ => none
def anyEq (_ : Sto) (x : Val) (ys : List Val) : Option Bool :=
  if x.chk 64 && Val.chkL 63 ys then some (ys.any fun y => y.eqv x) else none
def Val.flat : Val → Bool
  | .non => true
  | .bl _ => true
  | .int _ => true
  | .str _ => true
  | _ => false
def hasStr (b : List Nat) : Val → Option Bool
  | .str [c] => some (decide (c ∈ b))
  | _ => none
def hasFlat (x : Val) (ys : List Val) : Option Bool := if x.flat && ys.all Val.flat then some (ys.any fun y => y.eqv x) else none
def hasDic (x : Val) : Option (Bool × List (Val × Val)) → Option Bool
  | some (t, kvs) => if x.isKey t then some (dGet x kvs).isSome else none
  | none => none
def isIn (S : Sto) (x y : Val) : Option Bool := match y with
  | .str b => hasStr b x
  | .tup ys => hasFlat x ys
  | y => (match asList S y with
    | some ys => anyEq S x ys
    | none => hasDic x (asDic S y))
def isVal : Val → Val → Option Bool
  | .non, .non => some true
  | .bl a, .bl b => some (decide (a = b))
  | _, .non => some false
  | _, _ => none
def nt (o : Option Bool) : Option Bool := match o with
  | some b => some (!b)
  | none => none
def cmp (S : Sto) : COp → Val → Val → Option Bool
  | .eq, x, y => eqVal S x y
  | .ne, x, y => nt (eqVal S x y)
  | .lt, x, y => ltVal x y
  | .gt, x, y => gtVal x y
  | .le, x, y => leVal x y
  | .ge, x, y => leVal y x
  | .in_, x, y => isIn S x y
  | .nin, x, y => nt (isIn S x y)
  | .is_, x, y => isVal x y
  | .isn, x, y => nt (isVal x y)

/-! ### items, slices -/
def ixN (n : Nat) (i : Int) : Option Nat :=
  if 0 ≤ i then (if i < n then some i.toNat else none) else (if -(n : Int) ≤ i then some (i + n).toNat else none)
def atI {α : Type} (xs : List α) (i : Int) : Option α := match ixN xs.length i with
  | some j => xs[j]?
  | none => none
def clip (n d : Nat) : Option Int → Nat
  | none => d
  | some i => if i < 0 then (i + n).toNat else min i.toNat n
def cut {α : Type} (xs : List α) (lo hi : Option Int) : List α := (xs.drop (clip xs.length 0 lo)).take (clip xs.length xs.length hi - clip xs.length 0 lo)
def itemOf {α : Type} (xs : List α) : Val → Option α
  | .int i => atI xs i
  | _ => none
def itemDic (i : Val) : Option (Bool × List (Val × Val)) → Option Val
  | some (t, kvs) => if i.isKey t then dGet i kvs else none
  | none => none
def itemStr : Option Nat → Option Val
  | some c => some (.str [c])
  | none => none
def item (S : Sto) (o i : Val) : Option Val := match o with
  | .tup xs => itemOf xs i
  | .str s => if s.length ≤ lim then itemStr (itemOf s i) else none
  | o => (match asList S o with
    | some xs => itemOf xs i
    | none => itemDic i (asDic S o))
def slice (S : Sto) (o : Val) (lo hi : Option Int) : Option Val := match o with
  | .tup xs => some (.tup (cut xs lo hi))
  | .str s => if s.length ≤ lim then some (.str (cut s lo hi)) else none
  | o => (match asList S o with
    | some xs => some (.lst true (cut xs lo hi))
    | none => none)

/-! ### built-ins -/
inductive Ty where
  | int | bool | str | tuple | list
  deriving DecidableEq
/-- the name of a value's type -/
def tyName (S : Sto) : Val → Option Ty
  | .non => none
  | .bl _ => some .bool
  | .int _ => some .int
  | .str _ => some .str
  | .tup _ => some .tuple
  | .lst _ _ => some .list
  | .ref n => (match S[n]? with
    | some (.lst _) => some .list
    | _ => none)
  | _ => none
def isNon : Val → Bool
  | .non => true
  | _ => false
def isTy (S : Sto) (t : Ty) (v : Val) : Option Bool := match tyName S v with
  | some u => some (decide (u = t) || (decide (u = .bool) && decide (t = .int)))
  | none => if isNon v then some false else none
inductive Bi where
  | len | all | any | list | tuple | sum | min2 | max2 | abs | int | str
  deriving DecidableEq
def bools? : List Val → Option (List Bool)
  | [] => some []
  | .bl b :: r => (match bools? r with
    | some l => some (b :: l)
    | none => none)
  | _ => none
/-- the figures of n, at most f of them -/
def figs : Nat → Nat → List Nat → List Nat
  | 0, _, acc => acc
  | f + 1, n, acc => if n < 10 then (48 + n) :: acc else figs f (n / 10) ((48 + n % 10) :: acc)
def lenOf (S : Sto) : Val → Option Val
  | .str s => if s.length ≤ lim then some (.int s.length) else none
  | v => (match asSeq S v with
    | some xs => some (.int xs.length)
    | none => none)
def boolsV (S : Sto) (v : Val) : Option (List Bool) := match asList S v with
  | some xs => bools? xs
  | none => none
def intsV (S : Sto) (v : Val) : Option (List Int) := match asList S v with
  | some xs => ints? xs
  | none => none
def listOf (S : Sto) (v : Val) : Option Val := match v with
  | .kls ns => some (.lst true (ns.map .int))
  | v => (match asSeq S v with
    | some xs => some (.lst true xs)
    | none => none)
def tupleOf (S : Sto) (v : Val) : Option Val := match asSeq S v with
  | some xs => some (.tup xs)
  | none => none
def strVal : Val → Option Val
  | .int n => if 0 ≤ n ∧ n < 10 ^ 10 then some (.str (figs 10 n.toNat [])) else none
  | .str s => some (.str s)
  | _ => none
def callBi (S : Sto) : Bi → List Val → Option Val
  | .len, [v] => lenOf S v
  | .all, [v] => (match boolsV S v with
    | some bs => some (.bl (bs.all id))
    | none => none)
  | .any, [v] => (match boolsV S v with
    | some bs => some (.bl (bs.any id))
    | none => none)
  | .list, [v] => listOf S v
  | .tuple, [v] => tupleOf S v
  | .sum, [v] => (match intsV S v with
    | some is => some (.int is.sum)
    | none => none)
  | .min2, [.int a, .int b] => some (.int (if b < a then b else a))
  | .max2, [.int a, .int b] => some (.int (if b > a then b else a))
  | .abs, [.int a] => some (.int (if a < 0 then -a else a))
  | .int, [.int a] => some (.int a)
  | .str, [v] => strVal v
  | _, _ => none

/-- methods that change nothing -/
inductive Me where
  | count | index
  deriving DecidableEq
def indexOf (x : Val) : List Val → Nat → Option Nat
  | [], _ => none
  | y :: r, n => if y.eqv x then some n else indexOf x r (n + 1)
def idxOf (x : Val) (xs : List Val) : Option Val := if x.chk 64 && Val.chkL 63 xs then (match indexOf x xs 0 with
    | some n => some (.int n)
    | none => none) else none
def callMe (S : Sto) : Me → Val → List Val → Option Val
  | .count, o, [.int i] => (match intsV S o with
    | some is => some (.int (is.count i))
    | none => none)
  | .index, o, [x] => (match asList S o with
    | some xs => idxOf x xs
    | none => none)
  | _, _, _ => none

/-! ### cells -/
mutual
/-- no cell from b on -/
def Val.low (b : Nat) : Val → Bool
  | .tup xs => Val.lowL b xs
  | .lst _ xs => Val.lowL b xs
  | .dic _ _ kvs => Val.lowD b kvs
  | .ref n => decide (n < b)
  | _ => true
def Val.lowL (b : Nat) : List Val → Bool
  | [] => true
  | x :: xs => Val.low b x && Val.lowL b xs
def Val.lowD (b : Nat) : List (Val × Val) → Bool
  | [] => true
  | (_, x) :: xs => Val.low b x && Val.lowD b xs
end
/-- what may be put into cell n by a def that began with b cells -/
def mayPut (b n : Nat) (v : Val) : Bool := decide (b ≤ n) || v.low 0
def append (b : Nat) (S : Sto) (o v : Val) : R Val := match o with
  | .ref n => (match S[n]? with
    | some (.lst xs) => if xs.length < lim && mayPut b n v.settle then .ok .non (S.set n (.lst (xs ++ [v.settle]))) else .bad
    | _ => .bad)
  | _ => .bad
def extend (b : Nat) (S : Sto) (o v : Val) : R Val := match o with
  | .ref n => (match S[n]?, asList S v with
    | some (.lst xs), some ys => if xs.length + ys.length ≤ lim && (decide (b ≤ n) || Val.lowL 0 ys) then .ok (.ref n) (S.set n (.lst (xs ++ ys))) else .bad
    | _, _ => .bad)
  | _ => .bad
def setIx (b : Nat) (S : Sto) (o i v : Val) : R Unit := match o with
  | .ref n => (match S[n]? with
    | some (.lst xs) => (match i with
      | .int k => (match ixN xs.length k with
        | some j => if mayPut b n v.settle then .ok () (S.set n (.lst (xs.set j v.settle))) else .bad
        | none => .bad)
      | _ => .bad)
    | some (.dic t kvs) => if i.isKey t && kvs.length < lim && mayPut b n v.settle then .ok () (S.set n (.dic t (dPut i v.settle kvs))) else .bad
    | none => .bad)
  | _ => .bad
/-- a fresh list gets a cell -/
def newCell (S : Sto) (v : Val) : R Val := match v with
  | .lst true xs => .ok (.ref S.length) (S ++ [.lst xs])
  | .dic true t kvs => .ok (.ref S.length) (S ++ [.dic t kvs])
  | _ => .bad
/-- what a def hands back: its own cells become plain values -/
def freeze1 (b : Nat) (S : Sto) (v : Val) : Option Val := match v with
  | .ref n => if n < b then some v else (match S[n]? with
    | some (.lst xs) => if Val.lowL b xs then some (.lst true xs) else none
    | some (.dic t kvs) => if Val.lowD b kvs then some (.dic true t kvs) else none
    | none => none)
  | v => if v.low b then some v else none
def freezeL (b : Nat) (S : Sto) : List Val → Option (List Val)
  | [] => some []
  | x :: xs => (match freeze1 b S x, freezeL b S xs with
    | some y, some ys => some (y.settle :: ys)
    | _, _ => none)
def freeze (b : Nat) (S : Sto) (v : Val) : Option Val := match v with
  | .tup xs => (match freezeL b S xs with
    | some ys => some (.tup ys)
    | none => none)
  | v => freeze1 b S v

/-! ### the text -/
inductive T where
  | name (i : Nat)
  | tup (ts : List T)
mutual
def bindT : T → Val → Env → Option Env
  | .name i, v, env => some (env.set i (some v.settle))
  | .tup ts, .tup xs, env => bindTs ts xs env
  | _, _, _ => none
def bindTs : List T → List Val → Env → Option Env
  | [], [], env => some env
  | t :: ts, x :: xs, env => (match bindT t x env with
    | some env' => bindTs ts xs env'
    | none => none)
  | _, _, _ => none
end

mutual
inductive E where
  | var (i : Nat)
  | lit (v : Val)
  | con (i : Nat)
  | bin (op : BOp) (a b : E)
  | neg (a : E)
  | cmp (op : COp) (a b : E)
  | chain (o1 o2 : COp) (a b c : E)
  | and (es : List E)
  | or (es : List E)
  | not (a : E)
  | ite (c a b : E)
  | tup (es : List E)
  | list (es : List E)
  | dnew (t : Bool)
  | idx (a i : E)
  | slice (a : E) (lo hi : Option E)
  | call (f : Nat) (es : List E)
  | bi (b : Bi) (es : List E)
  | isi (t : Ty) (a : E)
  | meth (m : Me) (o : E) (a : E)
  | append (o : E) (a : E)
  | comp (own : List Nat) (tg : T) (src : Src) (ifs : List E) (elt : E)
  | dcomp (own : List Nat) (tg : T) (src : Src) (t : Bool) (k v : E)
  | cell (e : E)
inductive Src where
  | it (e : E)
  | rng1 (a : E)
  | rng2 (a b : E)
  | enum (e : E)
  | zip (a b : E)
end
inductive Stm where
  | asg (tg : T) (e : E)
  | par (is : List Nat) (es : List E)
  | setIx (o i e : E)
  | aug (i : Nat) (op : BOp) (e : E)
  | ext (i : Nat) (e : E)
  | expr (e : E)
  | ret (e : E)
  | retN
  | if_ (c : E) (a b : List Stm)
  | for_ (tg : T) (src : Src) (body : List Stm)
  | while_ (c : E) (body : List Stm)
  | brk | cont | pass
  | raise_ (c : Nat) (es : List E)

structure Ctx where
  call : Nat → List Val → Sto → R Val
  con : Nat → Option Val
  base : Nat
  fuel : Nat

def wipe (env : Env) : List Nat → Env
  | [] => env
  | i :: r => (wipe env r).set i none
def compLoop (tg : T) (test : Env → Sto → R Bool) (elt : Env → Sto → R Val) (env : Env) : List Val → Sto → R (List Val)
  | [], S => .ok [] S
  | x :: xs, S => (match bindT tg x env with
    | none => .bad
    | some env' => (test env' S).bind fun b S1 =>
      if b then (elt env' S1).bind fun v S2 => (compLoop tg test elt env xs S2).bind fun vs S3 => .ok (v.settle :: vs) S3
      else compLoop tg test elt env xs S1)
def dcompLoop (tg : T) (t : Bool) (kf vf : Env → Sto → R Val) (env : Env) : List Val → List (Val × Val) → Sto → R (List (Val × Val))
  | [], acc, S => .ok acc S
  | x :: xs, acc, S => (match bindT tg x env with
    | none => .bad
    | some env' => (kf env' S).bind fun k S1 => (vf env' S1).bind fun v S2 =>
      if k.isKey t then dcompLoop tg t kf vf env xs (dPut k v.settle acc) S2 else .bad)
def enumFrom : Nat → List Val → List Val
  | _, [] => []
  | n, x :: xs => .tup [.int n, x] :: enumFrom (n + 1) xs
def zipV : List Val → List Val → List Val
  | x :: xs, y :: ys => .tup [x, y] :: zipV xs ys
  | _, _ => []
def rangeV (a : Int) : Nat → List Val
  | 0 => []
  | n + 1 => .int a :: rangeV (a + 1) n
def rangeOf (S : Sto) (a b : Int) : R (List Val) := if -(2 ^ 62) ≤ a ∧ a < 2 ^ 62 ∧ -(2 ^ 62) ≤ b ∧ b < 2 ^ 62 then .ok (rangeV a (b - a).toNat) S else .bad
def walkOf (v : Val) : Option (List Val) := match v with
  | .tup xs => some xs
  | .lst _ xs => some xs
  | .str s => some (s.map fun c => .str [c])
  | _ => none
def seqOf (v : Val) : Option (List Val) := match v with
  | .tup xs => some xs
  | .lst _ xs => some xs
  | _ => none
/-- both lists, or both tuples -/
def twoOf (v w : Val) : Option (List Val × List Val) := match v, w with
  | .tup xs, .tup ys => some (xs, ys)
  | .lst _ xs, .lst _ ys => some (xs, ys)
  | _, _ => none
def asBl (v : Val) (S : Sto) : R Bool := match v with
  | .bl b => .ok b S
  | _ => .bad
def asInt (v : Val) (S : Sto) : R Int := match v with
  | .int i => .ok i S
  | _ => .bad

mutual
def evalE (c : Ctx) : E → Env → Sto → R Val
  | .var i, env, S => (match env[i]? with
    | some (some v) => .ok v S
    | _ => .bad)
  | .lit v, _, S => .ok v S
  | .con i, _, S => R.of (c.con i) S
  | .bin op a b, env, S => (evalE c a env S).bind fun x S1 => (evalE c b env S1).bind fun y S2 => R.of (QE.bin S2 op x y) S2
  | .neg a, env, S => (evalE c a env S).bind fun x S1 => (asInt x S1).bind fun i S2 => .ok (.int (-i)) S2
  | .cmp op a b, env, S => (evalE c a env S).bind fun x S1 => (evalE c b env S1).bind fun y S2 => (R.of (QE.cmp S2 op x y) S2).bind fun r S3 => .ok (.bl r) S3
  | .chain o1 o2 a b d, env, S => (evalE c a env S).bind fun x S1 => (evalE c b env S1).bind fun y S2 => (R.of (QE.cmp S2 o1 x y) S2).bind fun r S3 =>
      if r then (evalE c d env S3).bind fun z S4 => (R.of (QE.cmp S4 o2 y z) S4).bind fun r S5 => .ok (.bl r) S5 else .ok (.bl false) S3
  | .and es, env, S => (evalAnd c es env S).bind fun b S1 => .ok (.bl b) S1
  | .or es, env, S => (evalOr c es env S).bind fun b S1 => .ok (.bl b) S1
  | .not a, env, S => (evalE c a env S).bind fun x S1 => (asBl x S1).bind fun b S2 => .ok (.bl (!b)) S2
  | .ite t a b, env, S => (evalE c t env S).bind fun x S1 => (asBl x S1).bind fun r S2 => if r then evalE c a env S2 else evalE c b env S2
  | .tup es, env, S => (evalEs c es env S).bind fun xs S1 => if xs.length ≤ lim then .ok (.tup xs) S1 else .bad
  | .list es, env, S => (evalEs c es env S).bind fun xs S1 => if xs.length ≤ lim then .ok (.lst true xs) S1 else .bad
  | .dnew t, _, S => .ok (.dic true t []) S
  | .idx a i, env, S => (evalE c a env S).bind fun x S1 => (evalE c i env S1).bind fun y S2 => R.of (item S2 x y) S2
  | .slice a lo hi, env, S => (evalE c a env S).bind fun x S1 => (evalO c lo env S1).bind fun l S2 => (evalO c hi env S2).bind fun h S3 => R.of (QE.slice S3 x l h) S3
  | .call f es, env, S => (evalEs c es env S).bind fun xs S1 => c.call f xs S1
  | .bi b es, env, S => (evalEs c es env S).bind fun xs S1 => R.of (callBi S1 b xs) S1
  | .isi t a, env, S => (evalE c a env S).bind fun x S1 => (R.of (isTy S1 t x) S1).bind fun r S2 => .ok (.bl r) S2
  | .meth m o a, env, S => (evalE c o env S).bind fun x S1 => (R.of (asList S1 x) S1).bind fun _ S1 => (evalE c a env S1).bind fun v S2 => R.of (callMe S2 m x [v.settle]) S2
  | .append o a, env, S => (evalE c o env S).bind fun x S1 => (R.of (asList S1 x) S1).bind fun _ S1 => (evalE c a env S1).bind fun v S2 => QE.append c.base S2 x v.settle
  | .comp own tg src ifs elt, env, S => (evalSrc c src env S).bind fun xs S1 =>
      (compLoop tg (evalAnd c ifs) (evalE c elt) (wipe env own) xs S1).calm.bind fun ys S2 => if ys.length ≤ lim then .ok (.lst true ys) S2 else .bad
  | .dcomp own tg src t k v, env, S => (evalSrc c src env S).bind fun xs S1 =>
      (dcompLoop tg t (evalE c k) (evalE c v) (wipe env own) xs [] S1).calm.bind fun ys S2 => if xs.length ≤ lim then .ok (.dic true t ys) S2 else .bad
  | .cell e, env, S => (evalE c e env S).bind fun v S1 => newCell S1 v
/-- the items settled -/
def evalEs (c : Ctx) : List E → Env → Sto → R (List Val)
  | [], _, S => .ok [] S
  | e :: es, env, S => (evalE c e env S).bind fun x S1 => (evalEs c es env S1).bind fun xs S2 => .ok (x.settle :: xs) S2
def evalO (c : Ctx) : Option E → Env → Sto → R (Option Int)
  | none, _, S => .ok none S
  | some e, env, S => (evalE c e env S).bind fun x S1 => (asInt x S1).bind fun i S2 => .ok (some i) S2
def evalAnd (c : Ctx) : List E → Env → Sto → R Bool
  | [], _, S => .ok true S
  | e :: es, env, S => (evalE c e env S).bind fun x S1 => (asBl x S1).bind fun b S2 => if b then evalAnd c es env S2 else .ok false S2
def evalOr (c : Ctx) : List E → Env → Sto → R Bool
  | [], _, S => .ok false S
  | e :: es, env, S => (evalE c e env S).bind fun x S1 => (asBl x S1).bind fun b S2 => if b then .ok true S2 else evalOr c es env S2
def evalSrc (c : Ctx) : Src → Env → Sto → R (List Val)
  | .it e, env, S => (evalE c e env S).bind fun v S1 => R.of (walkOf v) S1
  | .rng1 a, env, S => (evalE c a env S).bind fun v S1 => (asInt v S1).bind fun i S2 => rangeOf S2 0 i
  | .rng2 a b, env, S => (evalE c a env S).bind fun v S1 => (asInt v S1).bind fun i S2 => (evalE c b env S2).bind fun w S3 => (asInt w S3).bind fun j S4 => rangeOf S4 i j
  | .enum e, env, S => (evalE c e env S).bind fun v S1 => (R.of (seqOf v) S1).bind fun xs S2 => .ok (enumFrom 0 xs) S2
  | .zip a b, env, S => (evalE c a env S).bind fun v S1 => (evalE c b env S1).bind fun w S2 => (R.of (twoOf v w) S2).bind fun p S3 => .ok (zipV p.1 p.2) S3
end

inductive Fl where
  | nx | bk | ct
  | rt (v : Val)
def forLoop (tg : T) (body : Env → Sto → R (Fl × Env)) : List Val → Env → Sto → R (Fl × Env)
  | [], env, S => .ok (.nx, env) S
  | x :: xs, env, S => (match bindT tg x env with
    | none => .bad
    | some env' => (body env' S).bind fun f S1 => match f with
      | (.nx, e) => forLoop tg body xs e S1
      | (.ct, e) => forLoop tg body xs e S1
      | (.bk, e) => .ok (.nx, e) S1
      | (.rt v, e) => .ok (.rt v, e) S1)
def whileLoop (test : Env → Sto → R Bool) (body : Env → Sto → R (Fl × Env)) : Nat → Env → Sto → R (Fl × Env)
  | 0, _, _ => .bad
  | n + 1, env, S => (test env S).bind fun b S1 => if b then (body env S1).bind fun f S2 => match f with
      | (.nx, e) => whileLoop test body n e S2
      | (.ct, e) => whileLoop test body n e S2
      | (.bk, e) => .ok (.nx, e) S2
      | (.rt v, e) => .ok (.rt v, e) S2
    else .ok (.nx, env) S1
def setAll : List Nat → List Val → Env → Option Env
  | [], [], env => some env
  | i :: is, x :: xs, env => setAll is xs (env.set i (some x))
  | _, _, _ => none
mutual
def execS (c : Ctx) : Stm → Env → Sto → R (Fl × Env)
  | .asg tg e, env, S => (evalE c e env S).bind fun v S1 => (R.of (bindT tg v env) S1).bind fun env' S2 => .ok (.nx, env') S2
  | .par is es, env, S => (evalEs c es env S).bind fun xs S1 => (R.of (setAll is xs env) S1).bind fun env' S2 => .ok (.nx, env') S2
  | .setIx o i e, env, S => (evalE c e env S).bind fun v S1 => (evalE c o env S1).bind fun x S2 => (evalE c i env S2).bind fun y S3 => (QE.setIx c.base S3 x y v).bind fun _ S4 => .ok (.nx, env) S4
  | .aug i op e, env, S => (match env[i]? with
    | some (some x) => (evalE c e env S).bind fun y S1 => (match x, y with
      | .int _, .int _ => (R.of (QE.bin S1 op x y) S1).bind fun z S2 => .ok (.nx, env.set i (some z.settle)) S2
      | .str _, .str _ => (R.of (QE.bin S1 op x y) S1).bind fun z S2 => .ok (.nx, env.set i (some z.settle)) S2
      | _, _ => .bad)
    | _ => .bad)
  | .ext i e, env, S => (match env[i]? with
    | some (some x) => (evalE c e env S).bind fun y S1 => (QE.extend c.base S1 x y).bind fun _ S2 => .ok (.nx, env) S2
    | _ => .bad)
  | .expr e, env, S => (evalE c e env S).bind fun _ S1 => .ok (.nx, env) S1
  | .ret e, env, S => (evalE c e env S).bind fun v S1 => .ok (.rt v, env) S1
  | .retN, env, S => .ok (.rt .non, env) S
  | .if_ t a b, env, S => (evalE c t env S).bind fun x S1 => (asBl x S1).bind fun r S2 => if r then execSs c a env S2 else execSs c b env S2
  | .for_ tg src body, env, S => (evalSrc c src env S).bind fun xs S1 => forLoop tg (execSs c body) xs env S1
  | .while_ t body, env, S => whileLoop (fun e S => (evalE c t e S).bind asBl) (execSs c body) c.fuel env S
  | .brk, env, S => .ok (.bk, env) S
  | .cont, env, S => .ok (.ct, env) S
  | .pass, env, S => .ok (.nx, env) S
  | .raise_ k es, env, S => (evalEs c es env S).bind fun xs S1 => .exc k xs S1
def execSs (c : Ctx) : List Stm → Env → Sto → R (Fl × Env)
  | [], env, S => .ok (.nx, env) S
  | s :: ss, env, S => (execS c s env S).bind fun f S1 => match f with
    | (.nx, e) => execSs c ss e S1
    | (f, e) => .ok (f, e) S1
end

structure Def where
  arity : Nat
  size : Nat
  body : List Stm
structure Prog where
  fns : List Def
  con : List Val
  fuel : Nat

def finish (b : Nat) (r : R (Fl × Env)) : R Val := match r with
  | .ok (.rt v, _) S => if S.length ≤ b then .ok v S else R.of (freeze b S v) (S.take b)
  | .ok (.nx, _) S => .ok .non (S.take b)
  | .ok _ _ => .bad
  | .exc c p S => .exc c p (S.take b)
  | .bad => .bad
def callFn (P : Prog) : Nat → Nat → List Val → Sto → R Val
  | 0, _, _, _ => .bad
  | k + 1, f, vs, S => (match P.fns[f]? with
    | none => .bad
    | some d => if vs.length = d.arity then
        finish S.length (execSs { call := callFn P k, con := fun i => P.con[i]?, base := S.length, fuel := P.fuel } d.body (vs.map some ++ List.replicate (d.size - d.arity) none) S)
      else .bad)
end QE

set_option Elab.async false
set_option linter.all false
set_option maxRecDepth 10000
set_option maxHeartbeats 1000000
/-! What the evaluator's values and stores stand for. -/
namespace QE
open PySem PySem.Spec PyProof.Rows L2

def strOf (s : List Nat) : Str := ⟨s.toArray⟩
theorem strOf_list (s : List Nat) : (strOf s).cps.toList = s := by simp [strOf]
theorem strOf_len (s : List Nat) : (strOf s).length = s.length := by simp [strOf, Str.length]
theorem strOf_inj {s t : List Nat} (h : strOf s = strOf t) : s = t := by rw [← strOf_list s, h, strOf_list]
theorem strOf_tl (x : Str) : strOf x.cps.toList = x := by cases x; simp [strOf]

/-- a key of a dict, as the layer has it -/
def keyOf : Val → L2.Key
  | .int i => .inl i
  | .str s => .inr (strOf s)
  | _ => .inl 0
def keysOf : Val → List L2.Key
  | .tup xs => xs.map keyOf
  | _ => []

/-- what may be read at a; a fresh one is not frozen -/
def RdF (f : Bool) (H : Hp) (a : Addr) (u : HO) : Prop := match f with
  | true => H a = some u
  | false => Rd H a u
theorem RdF.rd {f : Bool} {H : Hp} {a : Addr} {u : HO} (h : RdF f H a u) : Rd H a u := by
  cases f with
  | true => exact .inl h
  | false => exact h
theorem RdF.of {f : Bool} {H : Hp} {a : Addr} {u : HO} (h : H a = some u) : RdF f H a u := by
  cases f with
  | true => exact h
  | false => exact .inl h
/-- a list of the written part -/
def KLs (K : PySem.W.Frag) (a : Addr) (vs : List V) : Prop := ∃ (o : Obj) (its : Array Value) (n : Nat), K.lookup a = some o ∧ o.cls = .type "list" ∧ o.dict = none ∧ o.data = .seq its n ∧ its.size ≤ sizeLine ∧ Vals vs its.toList
mutual
def Rep (K : PySem.W.Frag) (hid ρ : List Addr) (H : Hp) : Val → V → Prop
  | .non, v => v = .non
  | .bl b, v => v = .bl b
  | .int i, v => v = .int i
  | .str s, v => v = .str (strOf s)
  | .tup xs, v => ∃ a vs, v = .ref a ∧ H a = some (.tup vs) ∧ RepL K hid ρ H xs vs
  | .lst f xs, v => ∃ a vs, v = .ref a ∧ RdF f H a (.lst vs) ∧ a ∉ ρ ∧ a ∉ hid ∧ RepL K hid ρ H xs vs
  | .dic _ true kvs, v => ∃ a ws, v = .ref a ∧ H a = some (.dT ws) ∧ a ∉ ρ ∧ a ∉ hid ∧ RepT K hid ρ H kvs ws
  | .dic _ false kvs, v => ∃ a ws, v = .ref a ∧ H a = some (.dK ws) ∧ a ∉ ρ ∧ a ∉ hid ∧ RepK K hid ρ H kvs ws
  | .ref n, v => ∃ a, ρ[n]? = some a ∧ v = .ref a
  | .kls ns, v => ∃ a, v = .ref a ∧ KLs K a (ns.map V.int)
def RepL (K : PySem.W.Frag) (hid ρ : List Addr) (H : Hp) : List Val → List V → Prop
  | [], vs => vs = []
  | x :: xs, vs => ∃ v r, vs = v :: r ∧ (x.st = true ∧ Rep K hid ρ H x v) ∧ RepL K hid ρ H xs r
def RepK (K : PySem.W.Frag) (hid ρ : List Addr) (H : Hp) : List (Val × Val) → List (L2.Key × V) → Prop
  | [], ws => ws = []
  | (k, x) :: xs, ws => ∃ v r, ws = (keyOf k, v) :: r ∧ k.flatKey = true ∧ (x.st = true ∧ Rep K hid ρ H x v) ∧ RepK K hid ρ H xs r
def RepT (K : PySem.W.Frag) (hid ρ : List Addr) (H : Hp) : List (Val × Val) → List (List L2.Key × V) → Prop
  | [], ws => ws = []
  | (k, x) :: xs, ws => ∃ v r, ws = (keysOf k, v) :: r ∧ k.isKey true = true ∧ (x.st = true ∧ Rep K hid ρ H x v) ∧ RepT K hid ρ H xs r
end

def ObRep (K : PySem.W.Frag) (hid ρ : List Addr) (H : Hp) (a : Addr) : Ob → Prop
  | .lst xs => ∃ vs, H a = some (.lst vs) ∧ RepL K hid ρ H xs vs
  | .dic true kvs => ∃ ws, H a = some (.dT ws) ∧ RepT K hid ρ H kvs ws
  | .dic false kvs => ∃ ws, H a = some (.dK ws) ∧ RepK K hid ρ H kvs ws

structure SOk (K : PySem.W.Frag) (hid ρ : List Addr) (H : Hp) (S : Sto) : Prop where
  len : ρ.length = S.length
  nd : ρ.Nodup
  apart : ∀ a ∈ ρ, a ∉ hid
  hidd : ∀ a ∈ hid, ∃ o, H a = some o
  ob : ∀ (n : Nat) (o : Ob), S[n]? = some o → ∃ a, ρ[n]? = some a ∧ ObRep K hid ρ H a o

/-- what may have become of the heap -/
structure Ext (ρ : List Addr) (H : Hp) (ρ' : List Addr) (H' : Hp) : Prop where
  more : ∃ new, ρ' = ρ ++ new ∧ ∀ b ∈ new, H b = none
  keep : ∀ b o, H b = some o → b ∉ ρ → H' b = some o
  there : ∀ b o, H b = some o → ∃ o', H' b = some o'
  tups : ∀ b xs, H b = some (.tup xs) → H' b = some (.tup xs)
  frzs : ∀ b o u, H b = some (.frz o u) → H' b = some (.frz o u)

theorem Ext.refl (ρ : List Addr) (H : Hp) : Ext ρ H ρ H :=
  ⟨⟨[], by simp, by simp⟩, fun _ _ h _ => h, fun _ o h => ⟨o, h⟩, fun _ _ h => h, fun _ _ _ h => h⟩
theorem Ext.free {ρ ρ' : List Addr} {H H' : Hp} (e : Ext ρ H ρ' H') {a : Addr} (h : H' a = none) : H a = none := by
  cases q : H a with
  | none => rfl
  | some o =>
    obtain ⟨o', r⟩ := e.there a o q
    rw [h] at r; cases r
theorem Ext.trans {ρ ρ1 ρ2 : List Addr} {H H1 H2 : Hp} (e : Ext ρ H ρ1 H1) (f : Ext ρ1 H1 ρ2 H2) : Ext ρ H ρ2 H2 := by
  obtain ⟨n1, q1, k1⟩ := e.more
  obtain ⟨n2, q2, k2⟩ := f.more
  refine ⟨⟨n1 ++ n2, by rw [q2, q1, List.append_assoc], fun b hb => ?_⟩, fun b o h hb => ?_, fun b o h => ?_, fun b xs h => f.tups b xs (e.tups b xs h), fun b o u h => f.frzs b o u (e.frzs b o u h)⟩
  · rcases List.mem_append.mp hb with hb | hb
    · exact k1 b hb
    · exact e.free (k2 b hb)
  · have h1 := e.keep b o h hb
    refine f.keep b o h1 fun z => ?_
    rw [q1] at z
    rcases List.mem_append.mp z with z | z
    · exact hb z
    · rw [k1 b z] at h; cases h
  · obtain ⟨o1, h1⟩ := e.there b o h
    exact f.there b o1 h1
/-- a new object -/
theorem Ext.new {ρ : List Addr} {H : Hp} {p : Addr} {o : HO} (h : H p = none) : Ext ρ H ρ (upd H p o) := by
  have ne : ∀ b u, H b = some u → b ≠ p := fun b u e => ne_of_none e h
  exact ⟨⟨[], by simp, by simp⟩, fun b u e _ => by rw [upd_ne (ne b u e)]; exact e, fun b u e => ⟨u, by rw [upd_ne (ne b u e)]; exact e⟩,
    fun b xs e => by rw [upd_ne (ne b _ e)]; exact e, fun b u w e => by rw [upd_ne (ne b _ e)]; exact e⟩
theorem Ext.at_ {ρ ρ' : List Addr} {H H' : Hp} (e : Ext ρ H ρ' H') {n : Nat} {a : Addr} (h : ρ[n]? = some a) : ρ'[n]? = some a := by
  obtain ⟨new, q, _⟩ := e.more
  rw [q, List.getElem?_append_left (List.getElem?_eq_some_iff.mp h).1]
  exact h
theorem Ext.notin {ρ ρ' : List Addr} {H H' : Hp} (e : Ext ρ H ρ' H') {a : Addr} (h : a ∉ ρ) (o : ∃ u, H a = some u) : a ∉ ρ' := by
  obtain ⟨new, q, k⟩ := e.more
  rw [q]
  intro z
  rcases List.mem_append.mp z with z | z
  · exact h z
  · obtain ⟨u, hu⟩ := o
    rw [k a z] at hu; cases hu
theorem rd_there {H : Hp} {a : Addr} {u : HO} (r : Rd H a u) : ∃ w, H a = some w := by
  rcases r with r | ⟨o, r⟩
  · exact ⟨_, r⟩
  · exact ⟨_, r⟩
theorem Ext.rd {ρ ρ' : List Addr} {H H' : Hp} (e : Ext ρ H ρ' H') {a : Addr} {u : HO} (h : a ∉ ρ) (r : Rd H a u) : Rd H' a u := by
  rcases r with r | ⟨o, r⟩
  · exact .inl (e.keep _ _ r h)
  · exact .inr ⟨o, e.keep _ _ r h⟩
theorem Ext.sqT {K : PySem.W.Frag} {ρ ρ' : List Addr} {H H' : Hp} (e : Ext ρ H ρ' H') {a : Addr} {xs : List V} (r : SqT K H a xs) : SqT K H' a xs := by
  rcases r with (r | ⟨o, r⟩) | r
  · exact .inl (.inl (e.tups _ _ r))
  · exact .inl (.inr ⟨o, e.frzs _ _ _ r⟩)
  · exact .inr r

theorem Ext.rdF {ρ ρ' : List Addr} {H H' : Hp} (e : Ext ρ H ρ' H') {f : Bool} {a : Addr} {u : HO} (h : a ∉ ρ) (r : RdF f H a u) : RdF f H' a u := by
  cases f with
  | true => exact e.keep _ _ r h
  | false => exact e.rd h r
section
variable {K : PySem.W.Frag} {hid ρ ρ' : List Addr} {H H' : Hp}
mutual
theorem Rep.mono (e : Ext ρ H ρ' H') : ∀ (x : Val) (v : V), Rep K hid ρ H x v → Rep K hid ρ' H' x v
  | .non, v, h => by simp only [Rep] at h ⊢; exact h
  | .bl b, v, h => by simp only [Rep] at h ⊢; exact h
  | .int i, v, h => by simp only [Rep] at h ⊢; exact h
  | .str s, v, h => by simp only [Rep] at h ⊢; exact h
  | .tup xs, v, h => by
    simp only [Rep] at h ⊢
    obtain ⟨a, vs, h1, h2, h3⟩ := h
    exact ⟨a, vs, h1, e.tups _ _ h2, RepL.mono e xs vs h3⟩
  | .lst f xs, v, h => by
    simp only [Rep] at h ⊢
    obtain ⟨a, vs, h1, h2, h3, h4, h5⟩ := h
    exact ⟨a, vs, h1, e.rdF h3 h2, e.notin h3 (rd_there h2.rd), h4, RepL.mono e xs vs h5⟩
  | .dic f true kvs, v, h => by
    simp only [Rep] at h ⊢
    obtain ⟨a, vs, h1, h2, h3, h4, h5⟩ := h
    exact ⟨a, vs, h1, e.keep _ _ h2 h3, e.notin h3 ⟨_, h2⟩, h4, RepT.mono e kvs vs h5⟩
  | .dic f false kvs, v, h => by
    simp only [Rep] at h ⊢
    obtain ⟨a, vs, h1, h2, h3, h4, h5⟩ := h
    exact ⟨a, vs, h1, e.keep _ _ h2 h3, e.notin h3 ⟨_, h2⟩, h4, RepK.mono e kvs vs h5⟩
  | .ref n, v, h => by
    simp only [Rep] at h ⊢
    obtain ⟨a, h1, h2⟩ := h
    exact ⟨a, e.at_ h1, h2⟩
  | .kls ns, v, h => by simp only [Rep] at h ⊢; exact h
theorem RepL.mono (e : Ext ρ H ρ' H') : ∀ (xs : List Val) (vs : List V), RepL K hid ρ H xs vs → RepL K hid ρ' H' xs vs
  | [], vs, h => by simp only [RepL] at h ⊢; exact h
  | x :: xs, vs, h => by
    simp only [RepL] at h ⊢
    obtain ⟨v, r, h1, h2, h3⟩ := h
    exact ⟨v, r, h1, ⟨h2.1, Rep.mono e x v h2.2⟩, RepL.mono e xs r h3⟩
theorem RepK.mono (e : Ext ρ H ρ' H') : ∀ (xs : List (Val × Val)) (ws : List (L2.Key × V)), RepK K hid ρ H xs ws → RepK K hid ρ' H' xs ws
  | [], vs, h => by simp only [RepK] at h ⊢; exact h
  | (k, x) :: xs, vs, h => by
    simp only [RepK] at h ⊢
    obtain ⟨v, r, h1, h4, h2, h3⟩ := h
    exact ⟨v, r, h1, h4, ⟨h2.1, Rep.mono e x v h2.2⟩, RepK.mono e xs r h3⟩
theorem RepT.mono (e : Ext ρ H ρ' H') : ∀ (xs : List (Val × Val)) (ws : List (List L2.Key × V)), RepT K hid ρ H xs ws → RepT K hid ρ' H' xs ws
  | [], vs, h => by simp only [RepT] at h ⊢; exact h
  | (k, x) :: xs, vs, h => by
    simp only [RepT] at h ⊢
    obtain ⟨v, r, h1, h4, h2, h3⟩ := h
    exact ⟨v, r, h1, h4, ⟨h2.1, Rep.mono e x v h2.2⟩, RepT.mono e xs r h3⟩
end
theorem Rep.settle {x : Val} {v : V} (h : Rep K hid ρ H x v) : Rep K hid ρ H x.settle v := by
  cases x with
  | lst f xs =>
    simp only [Val.settle, Rep] at h ⊢
    obtain ⟨a, vs, h1, h2, h3⟩ := h
    exact ⟨a, vs, h1, h2.rd, h3⟩
  | dic f t kvs => cases t <;> (simp only [Val.settle, Rep] at h ⊢; exact h)
  | _ => exact h
theorem RepL.length : ∀ {xs : List Val} {vs : List V}, RepL K hid ρ H xs vs → vs.length = xs.length
  | [], vs, h => by simp only [RepL] at h; rw [h]; rfl
  | x :: xs, vs, h => by
    simp only [RepL] at h
    obtain ⟨v, r, h1, h2, h3⟩ := h
    rw [h1, List.length_cons, List.length_cons, RepL.length h3]
theorem RepL.nil : RepL K hid ρ H [] [] := by simp only [RepL]
theorem RepL.cons {x : Val} {v : V} {xs : List Val} {vs : List V} (h : x.st = true ∧ Rep K hid ρ H x v) (r : RepL K hid ρ H xs vs) : RepL K hid ρ H (x :: xs) (v :: vs) := by
  simp only [RepL]; exact ⟨v, vs, rfl, h, r⟩
theorem RepL.app : ∀ {xs ys : List Val} {vs ws : List V}, RepL K hid ρ H xs vs → RepL K hid ρ H ys ws → RepL K hid ρ H (xs ++ ys) (vs ++ ws)
  | [], _, vs, _, h, r => by simp only [RepL] at h; subst h; exact r
  | x :: xs, _, vs, _, h, r => by
    simp only [RepL] at h
    obtain ⟨v, w, h1, h2, h3⟩ := h
    subst h1
    exact RepL.cons h2 (RepL.app h3 r)
theorem RepL.get : ∀ {xs : List Val} {vs : List V} {i : Nat} {x : Val}, RepL K hid ρ H xs vs → xs[i]? = some x → ∃ v, vs[i]? = some v ∧ x.st = true ∧ Rep K hid ρ H x v
  | [], _, _, _, _, e => by simp at e
  | y :: xs, vs, 0, x, h, e => by
    simp only [RepL] at h
    obtain ⟨v, w, h1, h2, h3⟩ := h
    subst h1
    simp at e
    subst e
    exact ⟨v, rfl, h2⟩
  | y :: xs, vs, i + 1, x, h, e => by
    simp only [RepL] at h
    obtain ⟨v, w, h1, h2, h3⟩ := h
    subst h1
    simpa using RepL.get (i := i) h3 (by simpa using e)
theorem RepL.set {x : Val} {v : V} (q : x.st = true ∧ Rep K hid ρ H x v) : ∀ {xs : List Val} {vs : List V} (i : Nat), RepL K hid ρ H xs vs → RepL K hid ρ H (xs.set i x) (vs.set i v)
  | [], vs, i, h => by simp only [RepL] at h; subst h; simp [RepL]
  | y :: xs, vs, 0, h => by
    simp only [RepL] at h
    obtain ⟨w, r, h1, h2, h3⟩ := h
    subst h1
    exact RepL.cons q h3
  | y :: xs, vs, i + 1, h => by
    simp only [RepL] at h
    obtain ⟨w, r, h1, h2, h3⟩ := h
    subst h1
    exact RepL.cons h2 (RepL.set q i h3)
theorem RepL.take : ∀ {xs : List Val} {vs : List V} (n : Nat), RepL K hid ρ H xs vs → RepL K hid ρ H (xs.take n) (vs.take n)
  | _, _, 0, _ => by simp [RepL]
  | [], vs, n + 1, h => by simp only [RepL] at h; subst h; simp [RepL]
  | y :: xs, vs, n + 1, h => by
    simp only [RepL] at h
    obtain ⟨w, r, h1, h2, h3⟩ := h
    subst h1
    exact RepL.cons h2 (RepL.take n h3)
theorem RepL.drop : ∀ {xs : List Val} {vs : List V} (n : Nat), RepL K hid ρ H xs vs → RepL K hid ρ H (xs.drop n) (vs.drop n)
  | _, _, 0, h => h
  | [], vs, n + 1, h => by simp only [RepL] at h; subst h; simp [RepL]
  | y :: xs, vs, n + 1, h => by
    simp only [RepL] at h
    obtain ⟨w, r, h1, h2, h3⟩ := h
    subst h1
    exact RepL.drop n h3
end

/-! ### fresh values -/
/-- nobody knows it yet: it may become a cell -/
def Fresh (K : PySem.W.Frag) (hid ρ' : List Addr) (H' : Hp) (S' : Sto) (H : Hp) (x : Val) (v : V) : Prop := match x with
  | .lst true xs => ∃ a, v = .ref a ∧ H a = none ∧ SOk K hid (ρ' ++ [a]) H' (S' ++ [.lst xs])
  | .dic true t kvs => ∃ a, v = .ref a ∧ H a = none ∧ SOk K hid (ρ' ++ [a]) H' (S' ++ [.dic t kvs])
  | _ => True
theorem Fresh.anti {K : PySem.W.Frag} {hid ρ2 ρ ρ' : List Addr} {H2 H H' : Hp} {S : Sto} {x : Val} {v : V} (e : Ext ρ H ρ' H') (h : Fresh K hid ρ2 H2 S H' x v) : Fresh K hid ρ2 H2 S H x v := by
  unfold Fresh at h ⊢
  split at h
  · obtain ⟨a, h1, h2, h3⟩ := h; exact ⟨a, h1, e.free h2, h3⟩
  · obtain ⟨a, h1, h2, h3⟩ := h; exact ⟨a, h1, e.free h2, h3⟩
  · trivial

theorem st_settle (x : Val) : x.settle.st = true := by cases x <;> rfl
theorem Fresh.of_st {K : PySem.W.Frag} {hid ρ2 : List Addr} {H2 H : Hp} {S : Sto} {x : Val} {v : V} (h : x.st = true) : Fresh K hid ρ2 H2 S H x v := by
  unfold Fresh
  split
  · cases h
  · cases h
  · trivial
/-! ### the evaluator's names -/
structure ERep (K : PySem.W.Frag) (hid ρ : List Addr) (H : Hp) (env : Env) (σ : L2.St) : Prop where
  len : σ.length = env.length
  at_ : ∀ (i : Nat) (x : Val), env[i]? = some (some x) → ∃ v, σ[i]? = some (some v) ∧ x.st = true ∧ Rep K hid ρ H x v
theorem ERep.mono {K : PySem.W.Frag} {hid ρ ρ' : List Addr} {H H' : Hp} {env : Env} {σ : L2.St} (h : ERep K hid ρ H env σ) (e : Ext ρ H ρ' H') : ERep K hid ρ' H' env σ :=
  ⟨h.len, fun i x q => let ⟨v, a, st, b⟩ := h.at_ i x q; ⟨v, a, st, Rep.mono e x v b⟩⟩
theorem ERep.set {K : PySem.W.Frag} {hid ρ : List Addr} {H : Hp} {env : Env} {σ : L2.St} (h : ERep K hid ρ H env σ) (i : Nat) {x : Val} {v : V} (st : x.st = true) (r : Rep K hid ρ H x v) : ERep K hid ρ H (env.set i (some x)) (σ.set i (some v)) := by
  refine ⟨by simp [h.len], fun j y q => ?_⟩
  by_cases hj : i = j
  · subst hj
    have hi : i < env.length := by
      have := (List.getElem?_eq_some_iff.mp q).1
      simpa using this
    rw [List.getElem?_set_self hi] at q
    cases q
    exact ⟨v, List.getElem?_set_self (by rw [h.len]; exact hi), st, r⟩
  · rw [List.getElem?_set_ne hj] at q ⊢
    exact h.at_ j y q
theorem ERep.wipe {K : PySem.W.Frag} {hid ρ : List Addr} {H : Hp} {env : Env} {σ : L2.St} (h : ERep K hid ρ H env σ) : ∀ is : List Nat, ERep K hid ρ H (QE.wipe env is) (L2.wipe σ is)
  | [] => h
  | i :: is => by
    have r := ERep.wipe h is
    refine ⟨by simp [QE.wipe, L2.wipe, r.len], fun j y q => ?_⟩
    unfold QE.wipe at q
    unfold L2.wipe
    by_cases hj : i = j
    · subst hj
      by_cases hi : i < (QE.wipe env is).length
      · rw [List.getElem?_set_self hi] at q; cases q
      · rw [List.getElem?_eq_none (by simpa using hi)] at q; cases q
    · rw [List.getElem?_set_ne hj] at q ⊢
      exact r.at_ j y q

/-! ### what a run comes to -/
def Out {α : Type} (K : PySem.W.Frag) (hid ρ : List Addr) (H : Hp) (r : R α) (G : α → Sto → List Addr → Hp → Prop) : Prop := match r with
  | .ok a S' => ∀ ρ' H', Ext ρ H ρ' H' → SOk K hid ρ' H' S' → G a S' ρ' H'
  | .exc _ _ _ => False
  | .bad => False
section
variable {K : PySem.W.Frag} {hid ρ ρ1 : List Addr} {H H1 : Hp} {α β : Type}
theorem Out.ext {r : R α} {G : α → Sto → List Addr → Hp → Prop} (h : Out K hid ρ H r G) (e : Ext ρ H ρ1 H1) : Out K hid ρ1 H1 r G := by
  cases r with
  | ok a S => exact fun ρ' H' e' s' => h ρ' H' (e.trans e') s'
  | exc _ _ _ => exact h.elim
  | bad => exact h.elim
theorem Out.mono {r : R α} {G G' : α → Sto → List Addr → Hp → Prop} (h : Out K hid ρ H r G) (g : ∀ a S' ρ' H', Ext ρ H ρ' H' → G a S' ρ' H' → G' a S' ρ' H') : Out K hid ρ H r G' := by
  cases r with
  | ok a S => exact fun ρ' H' e' s' => g a _ ρ' H' e' (h ρ' H' e' s')
  | exc _ _ _ => exact h.elim
  | bad => exact h.elim
/-- the first part of a run came to a value -/
theorem Out.bind {r : R α} {f : α → Sto → R β} {G : β → Sto → List Addr → Hp → Prop} (h : Out K hid ρ H (r.bind f) G) :
    ∃ a S, r = .ok a S ∧ ∀ ρ' H', Ext ρ H ρ' H' → Out K hid ρ' H' (f a S) G := by
  cases r with
  | ok a S => exact ⟨a, S, rfl, fun ρ' H' e => Out.ext h e⟩
  | exc _ _ _ => exact h.elim
  | bad => exact h.elim
theorem Out.pure {a : α} {S : Sto} {G : α → Sto → List Addr → Hp → Prop} (h : Out K hid ρ H (.ok a S) G) (s : SOk K hid ρ H S) : G a S ρ H := h ρ H (Ext.refl ρ H) s
theorem Out.of {o : Option α} {S : Sto} {G : α → Sto → List Addr → Hp → Prop} (h : Out K hid ρ H (R.of o S) G) : ∃ a, o = some a ∧ Out K hid ρ H (.ok a S) G := by
  cases o with
  | some a => exact ⟨a, rfl, h⟩
  | none => exact h.elim
end

/-- an expression's reading, by the evaluator -/
def tE (K : PySem.W.Frag) (c : Ctx) (e : E) : TE := fun σ H Q => ∃ hid ρ env S, ERep K hid ρ H env σ ∧ SOk K hid ρ H S ∧
  Out K hid ρ H (evalE c e env S) fun x S' ρ' H' => ∀ v, Rep K hid ρ' H' x v → Fresh K hid ρ' H' S' H x v → Q v H'
def tEs (K : PySem.W.Frag) (c : Ctx) (es : List E) : TA := fun σ H Q => ∃ hid ρ env S, ERep K hid ρ H env σ ∧ SOk K hid ρ H S ∧
  Out K hid ρ H (evalEs c es env S) fun xs _ ρ' H' => ∀ vs, RepL K hid ρ' H' xs vs → Q vs H'
def tT (K : PySem.W.Frag) (c : Ctx) (e : E) : TT := fun σ H Q => ∃ hid ρ env S, ERep K hid ρ H env σ ∧ SOk K hid ρ H S ∧
  Out K hid ρ H (evalE c e env S) fun x _ _ H' => ∃ b, x = .bl b ∧ Q b H'
/-- a list of tests, all of them or one of them -/
def tBs (f : List E → Env → Sto → R Bool) (K : PySem.W.Frag) (es : List E) : TT := fun σ H Q => ∃ hid ρ env S, ERep K hid ρ H env σ ∧ SOk K hid ρ H S ∧
  Out K hid ρ H (f es env S) fun b _ _ H' => Q b H'

/-- how a first part is read -/
theorem tE.of {K : PySem.W.Frag} {c : Ctx} {e : E} {hid ρ : List Addr} {H : Hp} {env : Env} {S : Sto} {σ : L2.St} {β : Type} {f : Val → Sto → R β} {G : β → Sto → List Addr → Hp → Prop} {Q : VK}
    (he : ERep K hid ρ H env σ) (hs : SOk K hid ρ H S) (h : Out K hid ρ H ((evalE c e env S).bind f) G)
    (k : ∀ x S1 ρ1 H1 v, Ext ρ H ρ1 H1 → SOk K hid ρ1 H1 S1 → Rep K hid ρ1 H1 x v → Fresh K hid ρ1 H1 S1 H x v → Out K hid ρ1 H1 (f x S1) G → Q v H1) : tE K c e σ H Q := by
  obtain ⟨x, S1, q, hk⟩ := h.bind
  refine ⟨hid, ρ, env, S, he, hs, ?_⟩
  rw [q]
  exact fun ρ1 H1 e1 s1 v r fr => k x S1 ρ1 H1 v e1 s1 r fr (hk ρ1 H1 e1)
theorem tEs.of {K : PySem.W.Frag} {c : Ctx} {es : List E} {hid ρ : List Addr} {H : Hp} {env : Env} {S : Sto} {σ : L2.St} {β : Type} {f : List Val → Sto → R β} {G : β → Sto → List Addr → Hp → Prop} {Q : List V → Hp → Prop}
    (he : ERep K hid ρ H env σ) (hs : SOk K hid ρ H S) (h : Out K hid ρ H ((evalEs c es env S).bind f) G)
    (k : ∀ xs S1 ρ1 H1 vs, Ext ρ H ρ1 H1 → SOk K hid ρ1 H1 S1 → RepL K hid ρ1 H1 xs vs → Out K hid ρ1 H1 (f xs S1) G → Q vs H1) : tEs K c es σ H Q := by
  obtain ⟨x, S1, q, hk⟩ := h.bind
  refine ⟨hid, ρ, env, S, he, hs, ?_⟩
  rw [q]
  exact fun ρ1 H1 e1 s1 v r => k x S1 ρ1 H1 v e1 s1 r (hk ρ1 H1 e1)
theorem asBl_ok {x : Val} {S : Sto} {b : Bool} {S' : Sto} (h : asBl x S = .ok b S') : x = .bl b ∧ S' = S := by
  cases x <;> simp only [asBl] at h <;> cases h
  exact ⟨rfl, rfl⟩
theorem asInt_ok {x : Val} {S : Sto} {b : Int} {S' : Sto} (h : asInt x S = .ok b S') : x = .int b ∧ S' = S := by
  cases x <;> simp only [asInt] at h <;> cases h
  exact ⟨rfl, rfl⟩
/-- how a test is read -/
theorem tT.of {K : PySem.W.Frag} {c : Ctx} {e : E} {hid ρ : List Addr} {H : Hp} {env : Env} {S : Sto} {σ : L2.St} {β : Type} {f : Bool → Sto → R β} {G : β → Sto → List Addr → Hp → Prop} {Q : Bool → Hp → Prop}
    (he : ERep K hid ρ H env σ) (hs : SOk K hid ρ H S) (h : Out K hid ρ H ((evalE c e env S).bind fun x S1 => (asBl x S1).bind f) G)
    (k : ∀ b S1 ρ1 H1, Ext ρ H ρ1 H1 → SOk K hid ρ1 H1 S1 → Out K hid ρ1 H1 (f b S1) G → Q b H1) : tT K c e σ H Q := by
  obtain ⟨x, S1, q, hk⟩ := h.bind
  refine ⟨hid, ρ, env, S, he, hs, ?_⟩
  rw [q]
  intro ρ1 H1 e1 s1
  obtain ⟨b, S2, q2, hk2⟩ := (hk ρ1 H1 e1).bind
  obtain ⟨hx, hS⟩ := asBl_ok q2
  subst hx hS
  exact ⟨b, rfl, k b _ ρ1 H1 e1 s1 (hk2 ρ1 H1 (Ext.refl _ _))⟩
end QE

set_option Elab.async false
set_option linter.all false
set_option maxRecDepth 10000
set_option maxHeartbeats 1000000
/-! The operators, by values. -/
namespace QE
open PySem PySem.Spec PyProof.Rows L2
section
variable {K : PySem.W.Frag} {hid ρ : List Addr} {H : Hp} {S : Sto} {p : Addr}
theorem SOk.there (s : SOk K hid ρ H S) {a : Addr} (h : a ∈ ρ) : ∃ o, H a = some o := by
  obtain ⟨n, hn, e⟩ := List.getElem_of_mem h
  have hs : n < S.length := by rw [← s.len]; exact hn
  obtain ⟨b, q, r⟩ := s.ob n S[n] (List.getElem?_eq_getElem hs)
  rw [List.getElem?_eq_getElem hn, e] at q
  cases q
  generalize S[n] = ob at r
  cases ob with
  | lst xs => obtain ⟨vs, h1, _⟩ := r; exact ⟨_, h1⟩
  | dic t kvs => cases t <;> (obtain ⟨vs, h1, _⟩ := r; exact ⟨_, h1⟩)
theorem SOk.new1 (s : SOk K hid ρ H S) (h : H p = none) : p ∉ ρ := fun z => by
  obtain ⟨o, q⟩ := s.there z
  rw [h] at q; cases q
theorem SOk.new2 (s : SOk K hid ρ H S) (h : H p = none) : p ∉ hid := fun z => by
  obtain ⟨o, q⟩ := s.hidd p z
  rw [h] at q; cases q
theorem ObRep.mono {ρ' : List Addr} {H' : Hp} (e : Ext ρ H ρ' H') {a : Addr} (hk : H' a = H a) : ∀ (o : Ob), ObRep K hid ρ H a o → ObRep K hid ρ' H' a o
  | .lst xs, ⟨vs, h1, h2⟩ => ⟨vs, hk.trans h1, RepL.mono e xs vs h2⟩
  | .dic true xs, ⟨vs, h1, h2⟩ => ⟨vs, hk.trans h1, RepT.mono e xs vs h2⟩
  | .dic false xs, ⟨vs, h1, h2⟩ => ⟨vs, hk.trans h1, RepK.mono e xs vs h2⟩
theorem SOk.new (s : SOk K hid ρ H S) (h : H p = none) {o : HO} : SOk K hid ρ (upd H p o) S := by
  have ne : ∀ a ∈ ρ, a ≠ p := fun a ha z => s.new1 h (z ▸ ha)
  refine ⟨s.len, s.nd, s.apart, fun a ha => (Ext.new (ρ := ρ) h).there _ _ (s.hidd a ha).choose_spec, fun n ob q => ?_⟩
  obtain ⟨a, h1, h2⟩ := s.ob n ob q
  exact ⟨a, h1, h2.mono (Ext.new h) (upd_ne (ne a (List.mem_of_getElem? h1)))⟩
theorem rep_newL (s : SOk K hid ρ H S) (h : H p = none) {f : Bool} {xs : List Val} {vs : List V} (r : RepL K hid ρ H xs vs) : Rep K hid ρ (upd H p (.lst vs)) (.lst f xs) (.ref p) := by
  simp only [Rep]
  exact ⟨p, vs, rfl, RdF.of upd_same, s.new1 h, s.new2 h, RepL.mono (Ext.new h) xs vs r⟩
theorem rep_newT (h : H p = none) {xs : List Val} {vs : List V} (r : RepL K hid ρ H xs vs) : Rep K hid ρ (upd H p (.tup vs)) (.tup xs) (.ref p) := by
  simp only [Rep]
  exact ⟨p, vs, rfl, upd_same, RepL.mono (Ext.new h) xs vs r⟩

theorem Ext.newC {ρ : List Addr} {H : Hp} {p : Addr} {o : HO} (h : H p = none) : Ext ρ H (ρ ++ [p]) (upd H p o) := by
  have e : Ext ρ H ρ (upd H p o) := Ext.new h
  exact ⟨⟨[p], rfl, fun b hb => by rw [List.mem_singleton.mp hb]; exact h⟩, e.keep, e.there, e.tups, e.frzs⟩
/-- a new object becomes a cell -/
theorem SOk.newC (s : SOk K hid ρ H S) (h : H p = none) {o : HO} {ob : Ob} (r : ObRep K hid (ρ ++ [p]) (upd H p o) p ob) : SOk K hid (ρ ++ [p]) (upd H p o) (S ++ [ob]) := by
  have e : Ext ρ H (ρ ++ [p]) (upd H p o) := Ext.newC h
  refine ⟨by simp [s.len], ?_, ?_, fun a ha => ?_, fun n ob' q => ?_⟩
  · rw [List.nodup_append]
    exact ⟨s.nd, by simp, fun x hx y hy => by
      rw [List.mem_singleton] at hy
      subst hy
      exact fun z => s.new1 h (z ▸ hx)⟩
  · intro b hb
    rcases List.mem_append.mp hb with hb | hb
    · exact s.apart b hb
    · rw [List.mem_singleton.mp hb]; exact s.new2 h
  · obtain ⟨u, q⟩ := s.hidd a ha
    exact e.there a u q
  · by_cases hn : n < S.length
    · rw [List.getElem?_append_left hn] at q
      obtain ⟨b, hb, rb⟩ := s.ob n ob' q
      refine ⟨b, by rw [List.getElem?_append_left (by rw [s.len]; exact hn)]; exact hb, rb.mono e (upd_ne fun z => ?_)⟩
      exact s.new1 h (z ▸ List.mem_of_getElem? hb)
    · have hn2 : n = S.length := by
        have := (List.getElem?_eq_some_iff.mp q).1
        simp at this
        omega
      subst hn2
      rw [List.getElem?_append_right (Nat.le_refl _)] at q
      simp at q
      subst q
      exact ⟨p, by rw [← s.len, List.getElem?_append_right (Nat.le_refl _)]; simp, r⟩
theorem fresh_newL {H0 : Hp} (s : SOk K hid ρ H S) (h : H p = none) (h0 : H0 p = none) {f : Bool} {xs : List Val} {vs : List V} (r : RepL K hid ρ H xs vs) : Fresh K hid ρ (upd H p (.lst vs)) S H0 (.lst f xs) (.ref p) := by
  cases f with
  | false => trivial
  | true => exact ⟨p, rfl, h0, s.newC h ⟨vs, upd_same, RepL.mono (Ext.newC h) _ _ r⟩⟩
theorem asList_rep (s : SOk K hid ρ H S) {x : Val} {v : V} {xs : List Val} (e : asList S x = some xs) (r : Rep K hid ρ H x v) : ∃ a vs, v = .ref a ∧ Rd H a (.lst vs) ∧ RepL K hid ρ H xs vs := by
  cases x with
  | lst f ys =>
    simp only [asList, Option.some.injEq] at e
    subst e
    simp only [Rep] at r
    obtain ⟨a, vs, h1, h2, _, _, h5⟩ := r
    exact ⟨a, vs, h1, h2.rd, h5⟩
  | ref n =>
    simp only [asList] at e
    split at e
    · rename_i ys q
      cases e
      simp only [Rep] at r
      obtain ⟨a, h1, h2⟩ := r
      obtain ⟨b, h3, vs, h4, h5⟩ := s.ob n _ q
      rw [h1] at h3; cases h3
      exact ⟨a, vs, h2, .inl h4, h5⟩
    · cases e
  | _ => simp [asList] at e
theorem asSeq_rep (s : SOk K hid ρ H S) {x : Val} {v : V} {xs : List Val} (e : asSeq S x = some xs) (r : Rep K hid ρ H x v) : ∃ a vs, v = .ref a ∧ (SqL K H a vs ∨ SqT K H a vs) ∧ RepL K hid ρ H xs vs := by
  cases x with
  | tup ys =>
    simp only [asSeq, Option.some.injEq] at e
    subst e
    simp only [Rep] at r
    obtain ⟨a, vs, h1, h2, h3⟩ := r
    exact ⟨a, vs, h1, .inr (SqT.of h2), h3⟩
  | _ =>
    obtain ⟨a, vs, h1, h2, h3⟩ := asList_rep s (by simpa only [asSeq] using e) r
    exact ⟨a, vs, h1, .inl (.inl h2), h3⟩
end

/-- two values in, one out -/
def rOf (K : PySem.W.Frag) (f : Sto → Val → Val → Option Val) : R2 := fun v w H Q => ∃ hid ρ S x y, SOk K hid ρ H S ∧ Rep K hid ρ H x v ∧ Rep K hid ρ H y w ∧
  Out K hid ρ H (R.of (f S x y) S) fun z S' ρ' H' => ∀ u, Rep K hid ρ' H' z u → Fresh K hid ρ' H' S' H z u → Q u H'
/-- two values in, a bool out -/
def rCo (K : PySem.W.Frag) (f : Sto → Val → Val → Option Bool) : R2 := fun v w H Q => ∃ hid ρ S x y b, SOk K hid ρ H S ∧ Rep K hid ρ H x v ∧ Rep K hid ρ H y w ∧ f S x y = some b ∧ Q (.bl b) H
section
variable {K : PySem.W.Frag} {hid ρ : List Addr} {H : Hp} {S : Sto} {p : Addr} {Q : VK} {z : Val} {u : V}
abbrev Gv (K : PySem.W.Frag) (hid : List Addr) (H : Hp) (Q : VK) : Val → Sto → List Addr → Hp → Prop := fun z S' ρ' H' => ∀ u, Rep K hid ρ' H' z u → Fresh K hid ρ' H' S' H z u → Q u H'
theorem fin_same (s : SOk K hid ρ H S) (h : Out K hid ρ H (.ok z S) (Gv K hid H Q)) (r : Rep K hid ρ H z u) (f : Fresh K hid ρ H S H z u := by trivial) : Q u H := h ρ H (Ext.refl ρ H) s u r f
theorem fin_new {o : HO} (s : SOk K hid ρ H S) (h : Out K hid ρ H (.ok z S) (Gv K hid H Q)) (hp : H p = none) (r : Rep K hid ρ (upd H p o) z (.ref p)) (f : Fresh K hid ρ (upd H p o) S H z (.ref p)) : Q (.ref p) (upd H p o) :=
  h ρ _ (Ext.new hp) (s.new hp) _ r f
theorem Rep.int_ {i : Int} {v : V} (h : Rep K hid ρ H (.int i) v) : v = .int i := by simpa only [Rep] using h
theorem Rep.str_ {i : List Nat} {v : V} (h : Rep K hid ρ H (.str i) v) : v = .str (strOf i) := by simpa only [Rep] using h
theorem Rep.bl_ {i : Bool} {v : V} (h : Rep K hid ρ H (.bl i) v) : v = .bl i := by simpa only [Rep] using h
theorem Rep.non_ {v : V} (h : Rep K hid ρ H .non v) : v = .non := by simpa only [Rep] using h
theorem Rep.tup_ {xs : List Val} {v : V} (h : Rep K hid ρ H (.tup xs) v) : ∃ a vs, v = .ref a ∧ H a = some (.tup vs) ∧ RepL K hid ρ H xs vs := by simpa only [Rep] using h
theorem Rep.of_int {i : Int} : Rep K hid ρ H (.int i) (.int i) := by simp only [Rep]
theorem Rep.of_bl {i : Bool} : Rep K hid ρ H (.bl i) (.bl i) := by simp only [Rep]
theorem Rep.of_str {i : List Nat} : Rep K hid ρ H (.str i) (.str (strOf i)) := by simp only [Rep]
theorem Rep.of_non : Rep K hid ρ H .non .non := by simp only [Rep]
theorem Rep.of_tup {xs : List Val} {a : Addr} {vs : List V} (h : H a = some (.tup vs)) (r : RepL K hid ρ H xs vs) : Rep K hid ρ H (.tup xs) (.ref a) := by simp only [Rep]; exact ⟨a, vs, rfl, h, r⟩
end
theorem lim_eq : lim = sizeLine := sizeLine_eq.symm

theorem strOf_app (a b : List Nat) : strOf a ++ strOf b = strOf (a ++ b) := SX.S_cat a b
section
variable {X : Cx}
theorem op_catR : OpR X (binaryOp .Add) (fun x y H Q => ∃ l b xs zs, x = .ref l ∧ y = .ref b ∧ Rd H l (.lst xs) ∧ Rd H b (.lst zs) ∧ xs.length + zs.length ≤ sizeLine ∧ ∀ p, H p = none → Q (.ref p) (upd H p (.lst (xs ++ zs)))) := by
  intro pins s σ H x y v u Q I rx ry h
  obtain ⟨l, b, xs, zs, ex, ey, h1, h2, hz, q⟩ := h
  subst ex ey
  cases rx
  cases ry
  obtain ⟨z1, its, n, r, e⟩ := h1.ok I.hok
  obtain ⟨z2, its2, n2, r2, e2⟩ := h2.ok I.hok
  have l1 := r.length
  have l2 := r2.length
  refine PySem.P.add_list e e2 ?_ (by rw [List.size_toArray, List.size_toArray]; omega)
  rw [show its.toArray ++ its2.toArray = (its ++ its2).toArray by simp]
  exact ⟨.ref _, _, Inv.lnew (t' := s.toks) I (r.append r2) (by rw [List.length_append]; omega), rfl, q _ I.fresh⟩
theorem op_addQ : OpR X (binaryOp .Add) (rOf X.K addV) := by
  intro pins s σ H v w vv ww Q I rv rw' h
  obtain ⟨hid, ρ, S, x, y, so, rx, ry, h⟩ := h
  obtain ⟨z, e, h⟩ := h.of
  unfold addV at e
  split at e
  · cases e
    cases rx.int_; cases ry.int_
    exact op_add pins s σ H _ _ _ _ Q I rv rw' ⟨_, _, rfl, rfl, fin_same so h .of_int⟩
  · rename_i a b
    split at e <;> cases e
    rename_i hz
    cases rx.str_; cases ry.str_
    refine op_add_str pins s σ H _ _ _ _ Q I rv rw' ⟨_, _, rfl, rfl, ?_, ?_⟩
    · rw [strOf_len, strOf_len, ← lim_eq]; exact hz
    · rw [strOf_app]; exact fin_same so h .of_str
  · rename_i xs ys
    split at e <;> cases e
    rename_i hz
    obtain ⟨a, vs, e1, h1, r1⟩ := rx.tup_
    obtain ⟨b, ws, e2, h2, r2⟩ := ry.tup_
    subst e1 e2
    have l1 := r1.length
    have l2 := r2.length
    refine op_catA pins s σ H _ _ _ _ Q I rv rw' ⟨a, b, vs, ws, rfl, rfl, SqT.of h1, SqT.of h2, by rw [l1, l2, ← lim_eq]; exact hz, fun e => ?_, fun _ e => ?_, fun _ _ p hp => ?_⟩
    · subst e
      have ex : xs = [] := List.eq_nil_of_length_eq_zero l1.symm
      subst ex
      exact fin_same so h (.of_tup h2 r2)
    · subst e
      have ex : ys = [] := List.eq_nil_of_length_eq_zero l2.symm
      subst ex
      rw [List.append_nil] at h
      exact fin_same so h (.of_tup h1 r1)
    · exact fin_new so h hp (rep_newT hp (r1.app r2)) trivial
  · split at e <;> try (cases e; done)
    rename_i xs ys h1 h2
    split at e <;> cases e
    rename_i hz
    obtain ⟨a, vs, e1, d1, r1⟩ := asList_rep so h1 rx
    obtain ⟨b, ws, e2, d2, r2⟩ := asList_rep so h2 ry
    subst e1 e2
    exact op_catR pins s σ H _ _ _ _ Q I rv rw' ⟨a, b, vs, ws, rfl, rfl, d1, d2, by rw [r1.length, r2.length, ← lim_eq]; exact hz, fun p hp => fin_new so h hp (rep_newL so hp (r1.app r2)) (fresh_newL so hp hp (r1.app r2))⟩
theorem op_subQ : OpR X (binaryOp .Sub) (rOf X.K subV) := by
  intro pins s σ H v w vv ww Q I rv rw' h
  obtain ⟨hid, ρ, S, x, y, so, rx, ry, h⟩ := h
  obtain ⟨z, e, h⟩ := h.of
  unfold subV at e
  split at e <;> cases e
  cases rx.int_; cases ry.int_
  exact op_sub pins s σ H _ _ _ _ Q I rv rw' ⟨_, _, rfl, rfl, fin_same so h .of_int⟩
theorem op_fdivQ : OpR X (binaryOp .FloorDiv) (rOf X.K fdivV) := by
  intro pins s σ H v w vv ww Q I rv rw' h
  obtain ⟨hid, ρ, S, x, y, so, rx, ry, h⟩ := h
  obtain ⟨z, e, h⟩ := h.of
  unfold fdivV at e
  split at e <;> try (cases e; done)
  split at e <;> cases e
  cases rx.int_; cases ry.int_
  exact op_fdivN pins s σ H _ _ _ _ Q I rv rw' ⟨_, _, rfl, rfl, by assumption, fin_same so h .of_int⟩
theorem op_modQ : OpR X (binaryOp .Mod) (rOf X.K modV) := by
  intro pins s σ H v w vv ww Q I rv rw' h
  obtain ⟨hid, ρ, S, x, y, so, rx, ry, h⟩ := h
  obtain ⟨z, e, h⟩ := h.of
  unfold modV at e
  split at e <;> try (cases e; done)
  split at e <;> cases e
  cases rx.int_; cases ry.int_
  exact op_modN pins s σ H _ _ _ _ Q I rv rw' ⟨_, _, rfl, rfl, by assumption, fin_same so h .of_int⟩
theorem op_powQ : OpR X (binaryOp .Pow) (rOf X.K powV) := by
  intro pins s σ H v w vv ww Q I rv rw' h
  obtain ⟨hid, ρ, S, x, y, so, rx, ry, h⟩ := h
  obtain ⟨z, e, h⟩ := h.of
  unfold powV at e
  split at e <;> try (cases e; done)
  split at e <;> cases e
  cases rx.int_; cases ry.int_
  exact op_pow pins s σ H _ _ _ _ Q I rv rw' ⟨_, _, rfl, rfl, by assumption, fin_same so h .of_int⟩

theorem rep_flat {α : Type} : ∀ (n : Nat) (xs : List α), rep n xs = (List.replicate n xs).flatten
  | 0, xs => rfl
  | n + 1, xs => by rw [rep, rep_flat n xs, List.replicate_succ, List.flatten_cons]
theorem RepL.rep {K : PySem.W.Frag} {hid ρ : List Addr} {H : Hp} {xs : List Val} {vs : List V} (r : RepL K hid ρ H xs vs) : ∀ n : Nat, RepL K hid ρ H (QE.rep n xs) (List.replicate n vs).flatten
  | 0 => .nil
  | n + 1 => by
    rw [List.replicate_succ, List.flatten_cons]
    exact r.app (r.rep n)
theorem cmul_of {a b : Int} (h : (small a || small b) = true) : CMul a b := by
  simp only [small, Bool.or_eq_true, Bool.and_eq_true, decide_eq_true_eq] at h
  exact h
theorem op_mulQ : OpR X (binaryOp .Mult) (rOf X.K mulV) := by
  intro pins s σ H v w vv ww Q I rv rw' h
  obtain ⟨hid, ρ, S, x, y, so, rx, ry, h⟩ := h
  obtain ⟨z, e, h⟩ := h.of
  unfold mulV at e
  split at e
  · split at e <;> cases e
    cases rx.int_; cases ry.int_
    exact op_mul pins s σ H _ _ _ _ Q I rv rw' ⟨_, _, rfl, rfl, cmul_of (by assumption), fin_same so h .of_int⟩
  · rename_i xs k
    split at e <;> try (cases e; done)
    rename_i hne
    obtain ⟨a, vs, e1, h1, r1⟩ := rx.tup_
    have l1 := r1.length
    have hv : vs ≠ [] := fun z => by
      subst z
      have : xs = [] := List.eq_nil_of_length_eq_zero l1.symm
      subst this
      exact hne rfl
    subst e1
    cases ry.int_
    split at e
    · cases e
      rename_i hc
      exact op_repT pins s σ H _ _ _ _ Q I rv rw' ⟨a, k, vs, rfl, rfl, SqT.of h1, hv, hc.1, hc.2.1, by rw [l1]; exact hc.2.2, fun p hp => fin_new so h hp (rep_newT hp (RepL.rep r1 _)) trivial⟩
    · cases e
  · cases e

end
/-! ### comparisons -/
mutual
def pd : Val → PyData
  | .non => .none
  | .bl b => .bool b
  | .int i => .int i
  | .str s => .str (strOf s)
  | .tup xs => .tuple (pdL xs)
  | .lst _ xs => .list (pdL xs)
  | _ => .none
def pdL : List Val → List PyData
  | [] => []
  | x :: xs => pd x :: pdL xs
end
theorem strOk_of {s : List Nat} (h : s.all (· < 1114112) = true) : PyData.strOk (strOf s) = true := by
  unfold PyData.strOk strOf
  simpa using h
mutual
theorem pd_lay : ∀ (d : Nat) (x : Val), x.chk d = true → (pd x).canLay0 = true ∧ (pd x).depth ≤ d
  | _, .non, _ => by simp [pd, PyData.canLay0, PyData.depth]
  | _, .bl b, _ => by simp [pd, PyData.canLay0, PyData.depth]
  | _, .int b, _ => by simp [pd, PyData.canLay0, PyData.depth]
  | _, .str b, h => by
    simp only [pd, PyData.canLay0, PyData.depth]
    exact ⟨strOk_of (by simpa [Val.chk] using h), Nat.zero_le _⟩
  | 0, .tup xs, h => by simp [Val.chk] at h
  | 0, .lst _ xs, h => by simp [Val.chk] at h
  | d + 1, .tup xs, h => by
    have q := pd_layL d xs (by simpa only [Val.chk] using h)
    simp only [pd, PyData.canLay0, PyData.depth]
    exact ⟨q.1, by omega⟩
  | d + 1, .lst _ xs, h => by
    have q := pd_layL d xs (by simpa only [Val.chk] using h)
    simp only [pd, PyData.canLay0, PyData.depth]
    exact ⟨q.1, by omega⟩
  | _, .dic _ _ _, h => by simp [Val.chk] at h
  | _, .ref _, h => by simp [Val.chk] at h
  | _, .kls _, h => by simp [Val.chk] at h
theorem pd_layL : ∀ (d : Nat) (xs : List Val), Val.chkL d xs = true → PyData.canLayAll0 (pdL xs) = true ∧ PyData.depthAll (pdL xs) ≤ d
  | _, [], _ => by simp [pdL, PyData.canLayAll0, PyData.depthAll]
  | d, x :: xs, h => by
    simp only [Val.chkL, Bool.and_eq_true] at h
    have q1 := pd_lay d x h.1
    have q2 := pd_layL d xs h.2
    simp only [pdL, PyData.canLayAll0, PyData.depthAll, Bool.and_eq_true]
    exact ⟨⟨q1.1, q2.1⟩, by omega⟩
end
theorem pd_shaped {x : Val} (h : x.chk 64 = true) : SeqAt.shaped (pd x) = true := by
  have q := pd_lay 64 x h
  unfold SeqAt.shaped
  rw [q.1, decide_eq_true q.2]
  rfl
theorem pdL_shaped {xs : List Val} (h : Val.chkL 63 xs = true) : SeqAt.shaped (.list (pdL xs)) = true ∧ SeqAt.shaped (.tuple (pdL xs)) = true := by
  have q := pd_layL 63 xs h
  have d1 : PyData.depth (.list (pdL xs)) ≤ 64 := by simp only [PyData.depth]; omega
  have d2 : PyData.depth (.tuple (pdL xs)) ≤ 64 := by simp only [PyData.depth]; omega
  have c1 : PyData.canLay0 (.list (pdL xs)) = true := by simp only [PyData.canLay0]; exact q.1
  have c2 : PyData.canLay0 (.tuple (pdL xs)) = true := by simp only [PyData.canLay0]; exact q.1
  exact ⟨Bool.and_eq_true_iff.mpr ⟨c1, decide_eq_true d1⟩, Bool.and_eq_true_iff.mpr ⟨c2, decide_eq_true d2⟩⟩
mutual
theorem pd_eqv : ∀ (x y : Val) (d e : Nat), x.chk d = true → y.chk e = true → x.eqv y = PyData.eqv (pd x) (pd y)
  | .non, y, _, _, _, h => by cases y <;> simp_all [pd, Val.eqv, PyData.eqv, Val.chk]
  | .bl b, y, _, _, _, h => by cases y <;> simp_all [pd, Val.eqv, PyData.eqv, Val.chk]
  | .int b, y, _, _, _, h => by cases y <;> simp_all [pd, Val.eqv, PyData.eqv, Val.chk]
  | .str b, y, _, _, _, h => by
    cases y <;> simp_all [pd, Val.eqv, PyData.eqv, Val.chk]
    rename_i b' _
    by_cases z : b = b'
    · subst z; simp
    · have : strOf b ≠ strOf b' := fun q => z (strOf_inj q)
      rw [beq_eq_false_iff_ne.mpr z, beq_eq_false_iff_ne.mpr this]
  | .tup xs, y, 0, _, h, _ => by simp [Val.chk] at h
  | .lst _ xs, y, 0, _, h, _ => by simp [Val.chk] at h
  | .tup xs, .tup ys, d + 1, 0, _, h => by simp [Val.chk] at h
  | .lst _ xs, .lst _ ys, d + 1, 0, _, h => by simp [Val.chk] at h
  | .tup xs, .tup ys, d + 1, e + 1, h1, h2 => by
    simp only [pd, Val.eqv, PyData.eqv]
    exact pd_eqvL xs ys d e (by simpa only [Val.chk] using h1) (by simpa only [Val.chk] using h2)
  | .lst _ xs, .lst _ ys, d + 1, e + 1, h1, h2 => by
    simp only [pd, Val.eqv, PyData.eqv]
    exact pd_eqvL xs ys d e (by simpa only [Val.chk] using h1) (by simpa only [Val.chk] using h2)
  | .tup xs, .non, d + 1, _, _, _ | .tup xs, .bl _, d + 1, _, _, _ | .tup xs, .int _, d + 1, _, _, _ | .tup xs, .str _, d + 1, _, _, _ | .tup xs, .lst _ _, d + 1, _, _, _ => by simp [pd, Val.eqv, PyData.eqv]
  | .lst _ xs, .non, d + 1, _, _, _ | .lst _ xs, .bl _, d + 1, _, _, _ | .lst _ xs, .int _, d + 1, _, _, _ | .lst _ xs, .str _, d + 1, _, _, _ | .lst _ xs, .tup _, d + 1, _, _, _ => by simp [pd, Val.eqv, PyData.eqv]
  | .tup xs, .dic _ _ _, d + 1, _, _, h | .tup xs, .ref _, d + 1, _, _, h | .tup xs, .kls _, d + 1, _, _, h => by simp [Val.chk] at h
  | .lst _ xs, .dic _ _ _, d + 1, _, _, h | .lst _ xs, .ref _, d + 1, _, _, h | .lst _ xs, .kls _, d + 1, _, _, h => by simp [Val.chk] at h
  | .dic _ _ _, _, _, _, h, _ => by simp [Val.chk] at h
  | .ref _, _, _, _, h, _ => by simp [Val.chk] at h
  | .kls _, _, _, _, h, _ => by simp [Val.chk] at h
theorem pd_eqvL : ∀ (xs ys : List Val) (d e : Nat), Val.chkL d xs = true → Val.chkL e ys = true → Val.eqvL xs ys = PyData.eqvAll (pdL xs) (pdL ys)
  | [], [], _, _, _, _ => by simp [pdL, Val.eqvL, PyData.eqvAll]
  | [], _ :: _, _, _, _, _ => by simp [pdL, Val.eqvL, PyData.eqvAll]
  | _ :: _, [], _, _, _, _ => by simp [pdL, Val.eqvL, PyData.eqvAll]
  | x :: xs, y :: ys, d, e, h1, h2 => by
    simp only [Val.chkL, Bool.and_eq_true] at h1 h2
    simp only [pdL, Val.eqvL, PyData.eqvAll]
    rw [pd_eqv x y d e h1.1 h2.1, pd_eqvL xs ys d e h1.2 h2.2]
end
section
variable {K : PySem.W.Frag} {hid ρ : List Addr} {H : Hp}
theorem sqL_of {a : Addr} {vs : List V} (h : Rd H a (.lst vs)) : SqL K H a vs := .inl h
mutual
theorem dp_of : ∀ (d : Nat) (x : Val) (v : V), x.chk d = true → Rep K hid ρ H x v → Dp K H v (pd x)
  | _, .non, v, _, r => by cases r.non_; simp only [pd]; exact .non
  | _, .bl b, v, _, r => by cases r.bl_; simp only [pd]; exact .bl b
  | _, .int b, v, _, r => by cases r.int_; simp only [pd]; exact .int b
  | _, .str b, v, _, r => by cases r.str_; simp only [pd]; exact .str _
  | 0, .tup xs, _, h, _ => by simp [Val.chk] at h
  | 0, .lst _ xs, _, h, _ => by simp [Val.chk] at h
  | d + 1, .tup xs, v, h, r => by
    obtain ⟨a, vs, e, h1, r1⟩ := r.tup_
    subst e
    simp only [pd]
    exact .tup (SqT.of h1) (dp_ofL d xs vs (by simpa only [Val.chk] using h) r1)
  | d + 1, .lst f xs, v, h, r => by
    simp only [Rep] at r
    obtain ⟨a, vs, e, h1, _, _, r1⟩ := r
    subst e
    simp only [pd]
    exact .lst (.inl h1.rd) (dp_ofL d xs vs (by simpa only [Val.chk] using h) r1)
  | _, .dic _ _ _, _, h, _ => by simp [Val.chk] at h
  | _, .ref _, _, h, _ => by simp [Val.chk] at h
  | _, .kls _, _, h, _ => by simp [Val.chk] at h
theorem dp_ofL : ∀ (d : Nat) (xs : List Val) (vs : List V), Val.chkL d xs = true → RepL K hid ρ H xs vs → DpAll K H vs (pdL xs)
  | _, [], vs, _, r => by simp only [RepL] at r; subst r; simp only [pdL]; exact .nil
  | d, x :: xs, vs, h, r => by
    simp only [RepL] at r
    obtain ⟨v, w, e, r1, r2⟩ := r
    subst e
    simp only [Val.chkL, Bool.and_eq_true] at h
    simp only [pdL]
    exact .cons (dp_of d x v h.1 r1.2) (dp_ofL d xs w h.2 r2)
end
/-- a value with its cell resolved -/
theorem dp_res {S : Sto} (so : SOk K hid ρ H S) {x : Val} {v : V} (r : Rep K hid ρ H x v) (h : (res S x).chk 64 = true) : Dp K H v (pd (res S x)) := by
  cases x with
  | ref n =>
    simp only [res] at h ⊢
    split at h
    · rename_i xs q
      simp only [Rep] at r
      obtain ⟨a, h1, h2⟩ := r
      obtain ⟨b, h3, vs, h4, h5⟩ := so.ob n _ q
      rw [h1] at h3; cases h3
      subst h2
      simp only [q, pd]
      exact .lst (.inl (.inl h4)) (dp_ofL 63 xs vs (by simpa only [Val.chk] using h) h5)
    · simp [Val.chk] at h
  | _ => exact dp_of 64 _ v h r
end
section
variable {X : Cx}
theorem op_eqQ (hu : X.A.units + 64 < cLine) : OpR X (compareOp .Eq) (rCo X.K eqVal) := by
  intro pins s σ H v w vv ww Q I rv rw' h
  obtain ⟨hid, ρ, S, x, y, b, so, rx, ry, e, q⟩ := h
  unfold eqVal at e
  split at e <;> cases e
  rename_i hc
  simp only [Bool.and_eq_true] at hc
  refine op_eqD hu pins s σ H _ _ _ _ Q I rv rw' ⟨_, _, dp_res so rx hc.1, dp_res so ry hc.2, pd_shaped hc.1, pd_shaped hc.2, ?_⟩
  rw [← pd_eqv _ _ 64 64 hc.1 hc.2]
  exact q
theorem op_neQ (hu : X.A.units + 64 < cLine) : OpR X (compareOp .NotEq) (rCo X.K fun S x y => nt (eqVal S x y)) := by
  intro pins s σ H v w vv ww Q I rv rw' h
  obtain ⟨hid, ρ, S, x, y, b, so, rx, ry, e, q⟩ := h
  simp only [nt, eqVal] at e
  split at e <;> cases e
  rename_i b hb
  split at hb <;> cases hb
  rename_i hc
  simp only [Bool.and_eq_true] at hc
  refine op_neD hu pins s σ H _ _ _ _ Q I rv rw' ⟨_, _, dp_res so rx hc.1, dp_res so ry hc.2, pd_shaped hc.1, pd_shaped hc.2, ?_⟩
  rw [← pd_eqv _ _ 64 64 hc.1 hc.2]
  exact q
theorem lexLt_iff : ∀ a b : List Nat, QE.lexLt a b = decide (a < b)
  | [], [] => by simp [QE.lexLt]
  | [], _ :: _ => by simp [QE.lexLt]
  | _ :: _, [] => by simp [QE.lexLt]
  | a :: r, b :: s => by
    unfold QE.lexLt
    by_cases h : a = b
    · subst h
      rw [if_pos rfl, lexLt_iff r s]
      simp [List.cons_lt_cons_iff]
    · rw [if_neg h]
      simp [List.cons_lt_cons_iff, h]
theorem ints_rep {K : PySem.W.Frag} {hid ρ : List Addr} {H : Hp} : ∀ {xs : List Val} {vs : List V} {is : List Int}, RepL K hid ρ H xs vs → ints? xs = some is → vs = is.map V.int
  | [], vs, is, r, e => by
    simp only [RepL] at r
    simp only [ints?] at e
    cases e
    exact r
  | x :: xs, vs, is, r, e => by
    simp only [RepL] at r
    obtain ⟨v, w, e1, r1, r2⟩ := r
    cases x <;> simp only [ints?] at e <;> try (cases e; done)
    split at e <;> cases e
    rename_i l hl
    rw [e1, r1.2.int_, ints_rep r2 hl]
    rfl
theorem lexLtI_eq : ∀ a b : List Int, lexLtI a b = HT.lexLt a b
  | [], [] => rfl
  | [], _ :: _ => rfl
  | _ :: _, [] => rfl
  | a :: r, b :: s => by
    unfold lexLtI
    rw [HT.lexLt_cons, lexLtI_eq r s]
theorem op_ltQ (hu : X.A.units < cLine) : OpR X (compareOp .Lt) (rCo X.K fun _ => ltVal) := by
  intro pins s σ H v w vv ww Q I rv rw' h
  obtain ⟨hid, ρ, S, x, y, b, so, rx, ry, e, q⟩ := h
  simp only [ltVal] at e
  split at e
  · cases e
    cases rx.int_; cases ry.int_
    exact op_lt pins s σ H _ _ _ _ Q I rv rw' ⟨_, _, rfl, rfl, q⟩
  · cases e
    cases rx.str_; cases ry.str_
    refine op_lt_str pins s σ H _ _ _ _ Q I rv rw' ⟨_, _, rfl, rfl, ?_⟩
    rw [strOf_list, strOf_list, ← lexLt_iff]
    exact q
  · split at e <;> cases e
    rename_i h1 h2
    obtain ⟨a, vs, e1, d1, r1⟩ := rx.tup_
    obtain ⟨b, ws, e2, d2, r2⟩ := ry.tup_
    have f1 := ints_rep r1 h1
    have f2 := ints_rep r2 h2
    subst e1 e2 f1 f2
    refine op_ltT hu pins s σ H _ _ _ _ Q I rv rw' ⟨_, _, _, _, rfl, rfl, SqT.of d1, SqT.of d2, ?_⟩
    rw [← lexLtI_eq]
    exact q
  · cases e
theorem op_gtQ : OpR X (compareOp .Gt) (rCo X.K fun _ => gtVal) := by
  intro pins s σ H v w vv ww Q I rv rw' h
  obtain ⟨hid, ρ, S, x, y, b, so, rx, ry, e, q⟩ := h
  simp only [gtVal] at e
  split at e <;> cases e
  cases rx.int_; cases ry.int_
  exact op_gt pins s σ H _ _ _ _ Q I rv rw' ⟨_, _, rfl, rfl, q⟩
theorem op_leQ : OpR X (compareOp .LtE) (rCo X.K fun _ => leVal) := by
  intro pins s σ H v w vv ww Q I rv rw' h
  obtain ⟨hid, ρ, S, x, y, b, so, rx, ry, e, q⟩ := h
  simp only [leVal] at e
  split at e <;> cases e
  cases rx.int_; cases ry.int_
  exact op_le pins s σ H _ _ _ _ Q I rv rw' ⟨_, _, rfl, rfl, q⟩
theorem op_geQ : OpR X (compareOp .GtE) (rCo X.K fun _ x y => leVal y x) := by
  intro pins s σ H v w vv ww Q I rv rw' h
  obtain ⟨hid, ρ, S, x, y, b, so, rx, ry, e, q⟩ := h
  simp only [leVal] at e
  split at e <;> cases e
  cases rx.int_; cases ry.int_
  exact op_ge pins s σ H _ _ _ _ Q I rv rw' ⟨_, _, rfl, rfl, q⟩
end
end QE

set_option Elab.async false
set_option linter.all false
set_option maxRecDepth 10000
set_option maxHeartbeats 1000000
/-! in, is, items, slices, dicts, by values. -/
namespace QE
open PySem PySem.Spec PyProof.Rows L2
section
variable {K : PySem.W.Frag} {hid ρ : List Addr} {H : Hp} {S : Sto}
theorem flatKey_rep {x : Val} {v : V} (h : x.flatKey = true) (r : Rep K hid ρ H x v) : v = kV (keyOf x) := by
  cases x <;> simp only [Val.flatKey] at h <;> try (cases h; done)
  · rw [r.int_]; rfl
  · rw [r.str_]; rfl
theorem flatKeys_rep : ∀ {xs : List Val} {vs : List V}, xs.all Val.flatKey = true → RepL K hid ρ H xs vs → vs = (xs.map keyOf).map kV
  | [], vs, _, r => by simp only [RepL] at r; exact r
  | x :: xs, vs, h, r => by
    simp only [RepL] at r
    obtain ⟨v, w, e, r1, r2⟩ := r
    simp only [List.all_cons, Bool.and_eq_true] at h
    rw [e, flatKey_rep h.1 r1.2, flatKeys_rep h.2 r2]
    rfl
theorem flatEq_iff {x y : Val} (hx : x.flatKey = true) (hy : y.flatKey = true) : flatEq x y = decide (keyOf x = keyOf y) := by
  cases x <;> simp only [Val.flatKey] at hx <;> try (cases hx; done)
  · cases y <;> simp only [Val.flatKey] at hy <;> try (cases hy; done)
    · rename_i a b
      show (a == b) = decide ((Sum.inl a : L2.Key) = Sum.inl b)
      exact (key_ll a b).symm
    · rename_i a b
      simp only [flatEq, keyOf]
      exact (decide_eq_false (fun z => nomatch z)).symm
  · cases y <;> simp only [Val.flatKey] at hy <;> try (cases hy; done)
    · rename_i a b
      simp only [flatEq, keyOf]
      exact (decide_eq_false (fun z => nomatch z)).symm
    · rename_i a b
      show (a == b) = decide ((Sum.inr (strOf a) : L2.Key) = Sum.inr (strOf b))
      rw [key_rr]
      by_cases h : a = b
      · subst h; simp
      · rw [decide_eq_false (fun z => h (strOf_inj z))]; exact beq_eq_false_iff_ne.mpr h
theorem flatEqL_iff : ∀ {xs ys : List Val}, xs.all Val.flatKey = true → ys.all Val.flatKey = true → flatEqL xs ys = decide (xs.map keyOf = ys.map keyOf)
  | [], [], _, _ => by simp [flatEqL]
  | [], _ :: _, _, _ => by simp [flatEqL]
  | _ :: _, [], _, _ => by simp [flatEqL]
  | x :: xs, y :: ys, h1, h2 => by
    simp only [List.all_cons, Bool.and_eq_true] at h1 h2
    simp only [flatEqL, flatEq_iff h1.1 h2.1, flatEqL_iff h1.2 h2.2, List.map_cons, List.cons.injEq, Bool.decide_and]
theorem isKey_true {x : Val} (h : x.isKey true = true) : ∃ xs, x = .tup xs ∧ xs.all Val.flatKey = true := by
  cases x <;> simp [Val.isKey] at h
  exact ⟨_, rfl, by simpa using h⟩
theorem keyEq_t {x y : Val} (hx : x.isKey true = true) (hy : y.isKey true = true) : keyEq x y = decide (keysOf x = keysOf y) := by
  obtain ⟨xs, rfl, h1⟩ := isKey_true hx
  obtain ⟨ys, rfl, h2⟩ := isKey_true hy
  simp only [keyEq, keysOf]
  exact flatEqL_iff h1 h2
theorem keyEq_f {x y : Val} (hx : x.flatKey = true) (hy : y.flatKey = true) : keyEq x y = decide (keyOf x = keyOf y) := by
  rw [← flatEq_iff hx hy]
  cases x <;> simp only [Val.flatKey] at hx <;> (try (cases hx; done)) <;> cases y <;> simp only [Val.flatKey] at hy <;> (try (cases hy; done)) <;> rfl
/-- a look-up, in both -/
theorem dGet_t {k : Val} (hk : k.isKey true = true) : ∀ {kvs : List (Val × Val)} {ws : List (List L2.Key × V)}, RepT K hid ρ H kvs ws →
    (∀ x, dGet k kvs = some x → ∃ v, valV ws (keysOf k) = some v ∧ x.st = true ∧ Rep K hid ρ H x v) ∧ (dGet k kvs = none → valV ws (keysOf k) = none)
  | [], ws, r => by
    simp only [RepT] at r
    subst r
    exact ⟨fun x e => by simp [dGet] at e, fun _ => rfl⟩
  | (q, u) :: kvs, ws, r => by
    simp only [RepT] at r
    obtain ⟨v, w, e, hq, r1, r2⟩ := r
    subst e
    have ih := dGet_t hk r2
    simp only [dGet, keyEq_t hq hk, decide_eq_true_eq]
    by_cases z : keysOf q = keysOf k
    · simp only [if_pos z]
      refine ⟨fun x e => ?_, fun e => by cases e⟩
      cases e
      exact ⟨v, valV_pos z, r1⟩
    · simp only [if_neg z]
      rw [valV_neg z]
      exact ih
theorem dGet_f {k : Val} (hk : k.flatKey = true) : ∀ {kvs : List (Val × Val)} {ws : List (L2.Key × V)}, RepK K hid ρ H kvs ws →
    (∀ x, dGet k kvs = some x → ∃ v, valV ws (keyOf k) = some v ∧ x.st = true ∧ Rep K hid ρ H x v) ∧ (dGet k kvs = none → valV ws (keyOf k) = none)
  | [], ws, r => by
    simp only [RepK] at r
    subst r
    exact ⟨fun x e => by simp [dGet] at e, fun _ => rfl⟩
  | (q, u) :: kvs, ws, r => by
    simp only [RepK] at r
    obtain ⟨v, w, e, hq, r1, r2⟩ := r
    subst e
    have ih := dGet_f hk r2
    simp only [dGet, keyEq_f hq hk, decide_eq_true_eq]
    by_cases z : keyOf q = keyOf k
    · simp only [if_pos z]
      refine ⟨fun x e => ?_, fun e => by cases e⟩
      cases e
      exact ⟨v, valV_pos z, r1⟩
    · simp only [if_neg z]
      rw [valV_neg z]
      exact ih
/-- what a dict value says -/
theorem asDic_rep (so : SOk K hid ρ H S) {x : Val} {v : V} {t : Bool} {kvs : List (Val × Val)} (e : asDic S x = some (t, kvs)) (r : Rep K hid ρ H x v) :
    ∃ a, v = .ref a ∧ ((t = true ∧ ∃ ws, H a = some (.dT ws) ∧ RepT K hid ρ H kvs ws) ∨ (t = false ∧ ∃ ws, H a = some (.dK ws) ∧ RepK K hid ρ H kvs ws)) := by
  cases x with
  | dic f t' kvs' =>
    simp only [asDic, Option.some.injEq, Prod.mk.injEq] at e
    obtain ⟨rfl, rfl⟩ := e
    cases t'
    · simp only [Rep] at r
      obtain ⟨a, ws, h1, h2, _, _, h5⟩ := r
      exact ⟨a, h1, .inr ⟨rfl, ws, h2, h5⟩⟩
    · simp only [Rep] at r
      obtain ⟨a, ws, h1, h2, _, _, h5⟩ := r
      exact ⟨a, h1, .inl ⟨rfl, ws, h2, h5⟩⟩
  | ref n =>
    simp only [asDic] at e
    split at e
    · rename_i t' kvs' q
      cases e
      simp only [Rep] at r
      obtain ⟨a, h1, h2⟩ := r
      obtain ⟨b, h3, h4⟩ := so.ob n _ q
      rw [h1] at h3; cases h3
      cases t
      · obtain ⟨ws, h5, h6⟩ := h4; exact ⟨a, h2, .inr ⟨rfl, ws, h5, h6⟩⟩
      · obtain ⟨ws, h5, h6⟩ := h4; exact ⟨a, h2, .inl ⟨rfl, ws, h5, h6⟩⟩
    · cases e
  | _ => simp [asDic] at e
/-- the layer's look-up of it -/
theorem dget_rep (so : SOk K hid ρ H S) {x k : Val} {v kv : V} {t : Bool} {kvs : List (Val × Val)} (e : asDic S x = some (t, kvs)) (r : Rep K hid ρ H x v) (hk : k.isKey t = true) (rk : Rep K hid ρ H k kv) :
    ∃ a o, v = .ref a ∧ DGet H a kv o ∧ o.isSome = (dGet k kvs).isSome ∧ ∀ y, dGet k kvs = some y → ∃ u, o = some u ∧ y.st = true ∧ Rep K hid ρ H y u := by
  obtain ⟨a, ea, h⟩ := asDic_rep so e r
  rcases h with ⟨rfl, ws, h1, h2⟩ | ⟨rfl, ws, h1, h2⟩
  · obtain ⟨ks, e2, h3⟩ := isKey_true hk
    subst e2
    obtain ⟨b, vs, e3, h4, r4⟩ := rk.tup_
    have h5 := flatKeys_rep h3 r4
    subst e3 h5
    have g := dGet_t hk h2
    refine ⟨a, _, ea, DGet.t h1 h4, ?_, fun y q => g.1 y q⟩
    cases q : dGet (.tup ks) kvs with
    | none => rw [show valV ws (ks.map keyOf) = none from g.2 q]; rfl
    | some y => obtain ⟨u, h6, _⟩ := g.1 y q; rw [show valV ws (ks.map keyOf) = some u from h6]; rfl
  · have h3 : k.flatKey = true := by simpa [Val.isKey] using hk
    have h4 := flatKey_rep h3 rk
    subst h4
    have g := dGet_f h3 h2
    refine ⟨a, _, ea, DGet.k h1, ?_, fun y q => g.1 y q⟩
    cases q : dGet k kvs with
    | none => rw [g.2 q]; rfl
    | some y => obtain ⟨u, h6, _⟩ := g.1 y q; rw [h6]; rfl

theorem flat_V {x : Val} {v : V} (h : x.flat = true) (r : Rep K hid ρ H x v) : flatV v = true := by
  cases x <;> simp only [Val.flat] at h <;> try (cases h; done)
  · rw [r.non_]; rfl
  · rw [r.bl_]; rfl
  · rw [r.int_]; rfl
  · rw [r.str_]; rfl
theorem flat_Vs : ∀ {xs : List Val} {vs : List V}, xs.all Val.flat = true → RepL K hid ρ H xs vs → vs.all flatV = true
  | [], vs, _, r => by simp only [RepL] at r; subst r; rfl
  | x :: xs, vs, h, r => by
    simp only [RepL] at r
    obtain ⟨v, w, e, r1, r2⟩ := r
    simp only [List.all_cons, Bool.and_eq_true] at h
    rw [e, List.all_cons, flat_V h.1 r1.2, flat_Vs h.2 r2]
    rfl
theorem str_beq (a b : List Nat) : (strOf a == strOf b) = (a == b) := by
  by_cases h : a = b
  · subst h; simp
  · rw [beq_eq_false_iff_ne.mpr h, beq_eq_false_iff_ne.mpr (fun z => h (strOf_inj z))]
theorem flat_eqV {x y : Val} {v w : V} (hx : x.flat = true) (hy : y.flat = true) (r : Rep K hid ρ H x v) (q : Rep K hid ρ H y w) : eqV v w = x.eqv y := by
  cases x <;> simp only [Val.flat] at hx <;> (try (cases hx; done)) <;> cases y <;> simp only [Val.flat] at hy <;> (try (cases hy; done)) <;>
    (simp only [Rep] at r q; subst r q; simp only [eqV, Val.eqv, str_beq])
theorem flat_any {x : Val} {v : V} (hx : x.flat = true) (r : Rep K hid ρ H x v) : ∀ {ys : List Val} {vs : List V}, ys.all Val.flat = true → RepL K hid ρ H ys vs → inV v vs = ys.any fun y => y.eqv x
  | [], vs, _, q => by simp only [RepL] at q; subst q; rfl
  | y :: ys, vs, h, q => by
    simp only [RepL] at q
    obtain ⟨w, l, e, r1, r2⟩ := q
    simp only [List.all_cons, Bool.and_eq_true] at h
    have ih := flat_any hx r h.2 r2
    unfold inV at ih ⊢
    rw [e, List.any_cons, List.any_cons, ih, flat_eqV h.1 hx r1.2 r]
theorem pdL_any {x : Val} (hx : x.chk 64 = true) : ∀ (ys : List Val) (d : Nat), Val.chkL d ys = true → ((pdL ys).any fun z => PyData.eqv z (pd x)) = ys.any fun y => y.eqv x
  | [], _, _ => rfl
  | y :: ys, d, h => by
    simp only [Val.chkL, Bool.and_eq_true] at h
    simp only [pdL, List.any_cons]
    rw [pdL_any hx ys d h.2, pd_eqv y x d 64 h.1 hx]
theorem dp_list (so : SOk K hid ρ H S) {y : Val} {v : V} {ys : List Val} (e : asList S y = some ys) (r : Rep K hid ρ H y v) (h : Val.chkL 63 ys = true) : Dp K H v (.list (pdL ys)) := by
  obtain ⟨a, vs, e1, h1, r1⟩ := asList_rep so e r
  subst e1
  exact .lst (.inl h1) (dp_ofL 63 ys vs h r1)
end
section
variable {X : Cx}
theorem in_both (neg : Bool) (hu : X.A.units + 65 < cLine) {op : CmpOp} (hop : op = if neg then .NotIn else .In) : OpR X (compareOp op) (rCo X.K fun S x y => if neg then nt (isIn S x y) else isIn S x y) := by
  intro pins s σ H v w vv ww Q I rv rw' h
  obtain ⟨hid, ρ, S, x, y, b, so, rx, ry, e, q⟩ := h
  have e' : ∃ c, isIn S x y = some c ∧ b = if neg then !c else c := by
    cases neg
    · exact ⟨b, e, rfl⟩
    · simp only [if_true, nt] at e
      split at e <;> cases e
      rename_i c hc
      exact ⟨c, hc, rfl⟩
  clear e
  obtain ⟨c, e, eb⟩ := e'
  subst eb
  unfold isIn at e
  split at e
  · rename_i bs
    unfold hasStr at e
    split at e <;> cases e
    rename_i c0
    cases rx.str_; cases ry.str_
    cases neg
    · subst hop
      refine op_in_sign pins s σ H _ _ _ _ Q I rv rw' ⟨c0, _, rfl, rfl, ?_⟩
      rw [strOf_list]
      exact q
    · subst hop
      refine op_notIn_sign pins s σ H _ _ _ _ Q I rv rw' ⟨c0, _, rfl, rfl, ?_⟩
      rw [strOf_list]
      exact q
  · rename_i ys
    unfold hasFlat at e
    split at e <;> cases e
    rename_i hf
    simp only [Bool.and_eq_true] at hf
    obtain ⟨a, vs, e1, h1, r1⟩ := ry.tup_
    subst e1
    have q' := flat_any hf.1 rx hf.2 r1
    cases neg
    · subst hop
      refine op_in_seq pins s σ H _ _ _ _ Q I rv rw' ⟨a, vs, rfl, .inr (SqT.of h1), flat_V hf.1 rx, flat_Vs hf.2 r1, ?_⟩
      simp only [Bool.false_eq_true, if_false, q'] at q ⊢
      exact q
    · subst hop
      refine op_notIn_seq pins s σ H _ _ _ _ Q I rv rw' ⟨a, vs, rfl, .inr (SqT.of h1), flat_V hf.1 rx, flat_Vs hf.2 r1, ?_⟩
      simp only [if_true, q'] at q ⊢
      exact q
  · split at e
    · rename_i ys hl
      unfold anyEq at e
      split at e <;> cases e
      rename_i hc
      simp only [Bool.and_eq_true] at hc
      have p1 := pdL_any hc.1 ys 63 hc.2
      cases neg
      · subst hop
        refine op_inD hu pins s σ H _ _ _ _ Q I rv rw' ⟨_, _, dp_of 64 x v hc.1 rx, dp_list so hl ry hc.2, pd_shaped hc.1, (pdL_shaped hc.2).1, ?_⟩
        rw [p1]
        exact q
      · subst hop
        refine op_notInD hu pins s σ H _ _ _ _ Q I rv rw' ⟨_, _, dp_of 64 x v hc.1 rx, dp_list so hl ry hc.2, pd_shaped hc.1, (pdL_shaped hc.2).1, ?_⟩
        rw [p1]
        exact q
    · unfold hasDic at e
      split at e
      · rename_i t kvs hd
        split at e <;> cases e
        rename_i hk
        obtain ⟨a, o, ea, g, ho, _⟩ := dget_rep so hd ry hk rx
        subst ea
        cases rw'
        rw [← ho] at q
        cases neg
        · subst hop
          exact d_in (by omega) I g rv fun s' I' => ⟨.bl _, H, I', rfl, q⟩
        · subst hop
          exact d_notIn (by omega) I g rv fun s' I' => ⟨.bl _, H, I', rfl, q⟩
      · cases e
theorem op_inQ (hu : X.A.units + 65 < cLine) : OpR X (compareOp .In) (rCo X.K isIn) := in_both false hu rfl
theorem op_ninQ (hu : X.A.units + 65 < cLine) : OpR X (compareOp .NotIn) (rCo X.K fun S x y => nt (isIn S x y)) := in_both true hu rfl
theorem non_iff {K : PySem.W.Frag} {hid ρ : List Addr} {H : Hp} {x : Val} {v : V} (r : Rep K hid ρ H x v) (h : x ≠ .non) : v ≠ .non := by
  intro z
  subst z
  cases x with
  | non => exact h rfl
  | bl b => cases r.bl_
  | int b => cases r.int_
  | str b => cases r.str_
  | tup xs => obtain ⟨a, vs, e, _⟩ := r.tup_; cases e
  | lst f xs => simp only [Rep] at r; obtain ⟨a, vs, e, _⟩ := r; cases e
  | dic f t kvs => cases t <;> (simp only [Rep] at r; obtain ⟨a, vs, e, _⟩ := r; cases e)
  | ref n => simp only [Rep] at r; obtain ⟨a, _, e⟩ := r; cases e
  | kls ns => simp only [Rep] at r; obtain ⟨a, e, _⟩ := r; cases e
theorem is_both (neg : Bool) {op : CmpOp} (hop : op = if neg then .IsNot else .Is) : OpR X (compareOp op) (rCo X.K fun _ x y => if neg then nt (isVal x y) else isVal x y) := by
  intro pins s σ H v w vv ww Q I rv rw' h
  obtain ⟨hid, ρ, S, x, y, b, so, rx, ry, e, q⟩ := h
  have e' : ∃ c, isVal x y = some c ∧ b = if neg then !c else c := by
    cases neg
    · exact ⟨b, e, rfl⟩
    · simp only [if_true, nt] at e
      split at e <;> cases e
      rename_i c hc
      exact ⟨c, hc, rfl⟩
  clear e
  obtain ⟨c, e, eb⟩ := e'
  subst eb
  unfold isVal at e
  split at e
  · cases e
    cases rx.non_; cases ry.non_
    cases neg
    · subst hop; exact op_isN pins s σ H _ _ _ _ Q I rv rw' ⟨rfl, q⟩
    · subst hop; exact op_notN pins s σ H _ _ _ _ Q I rv rw' ⟨rfl, q⟩
  · cases e
    cases rx.bl_; cases ry.bl_
    cases neg
    · subst hop; exact op_isBl pins s σ H _ _ _ _ Q I rv rw' ⟨_, _, rfl, rfl, q⟩
    · subst hop; exact op_notBl pins s σ H _ _ _ _ Q I rv rw' ⟨_, _, rfl, rfl, q⟩
  · rename_i hx
    cases e
    cases ry.non_
    have hn := non_iff rx (fun z => hx z)
    cases neg
    · subst hop; exact op_isN pins s σ H _ _ _ _ Q I rv rw' ⟨rfl, by rw [decide_eq_false hn]; exact q⟩
    · subst hop; exact op_notN pins s σ H _ _ _ _ Q I rv rw' ⟨rfl, by rw [decide_eq_false hn]; exact q⟩
  · cases e
theorem op_isQ : OpR X (compareOp .Is) (rCo X.K fun _ x y => isVal x y) := is_both false rfl
theorem op_isnQ : OpR X (compareOp .IsNot) (rCo X.K fun _ x y => nt (isVal x y)) := is_both true rfl
end
end QE

set_option Elab.async false
set_option linter.all false
set_option maxRecDepth 10000
set_option maxHeartbeats 1000000
/-! Items, slices, built-ins, by values. -/
namespace QE
open PySem PySem.Spec PyProof.Rows L2
theorem ixN_eq (n : Nat) (i : Int) : QE.ixN n i = L2.ixN n i := rfl
theorem atI_eq {α : Type} (xs : List α) (i : Int) : QE.atI xs i = L2.atI xs i := by
  unfold QE.atI L2.atI
  rw [ixN_eq]
  cases L2.ixN xs.length i <;> rfl
theorem clip_sIx (n d : Nat) (o : Option Int) : clip n d o = HT.sIx n d o := by cases o <;> rfl
section
variable {K : PySem.W.Frag} {hid ρ : List Addr} {H : Hp} {S : Sto}
theorem RepL.atI {xs : List Val} {vs : List V} {i : Int} {x : Val} (r : RepL K hid ρ H xs vs) (e : QE.atI xs i = some x) : ∃ v, L2.atI vs i = some v ∧ x.st = true ∧ Rep K hid ρ H x v := by
  rw [atI_eq] at e
  unfold L2.atI at e ⊢
  rw [r.length]
  cases h : L2.ixN xs.length i with
  | none => rw [h] at e; cases e
  | some j => rw [h] at e; exact r.get e
theorem itemOf_int {α : Type} {xs : List α} {i : Val} {x : α} (e : itemOf xs i = some x) : ∃ k, i = .int k ∧ QE.atI xs k = some x := by
  cases i <;> simp only [itemOf] at e <;> try (cases e; done)
  exact ⟨_, rfl, e⟩
theorem RepL.cut {xs : List Val} {vs : List V} (r : RepL K hid ρ H xs vs) (lo hi : Option Int) : RepL K hid ρ H (cut xs lo hi) (cutV vs lo hi) := by
  unfold QE.cut cutV
  rw [r.length, clip_sIx, clip_sIx]
  exact (r.drop _).take _
end
section
variable {X : Cx}
theorem ix_dict (hu : X.A.units + 1 < cLine) : IxR X (fun x y H Q => ∃ a v, x = .ref a ∧ DGet H a y (some v) ∧ Q v H) := by
  intro value slice pins s σ H x y v u Q I rx ry h hs
  obtain ⟨a, w, ex, g, q⟩ := h
  subst ex
  cases rx
  exact tail_any (dict_typeIs I g) PySem.F.slot_dict_getitem.lookup (d_getItem hu I g ry fun w' s' I' rw' => ⟨w, H, I', rw', q⟩) hs
theorem ix_Q (hu : X.A.units + 1 < cLine) : IxR X (rOf X.K item) := by
  intro value slice pins s σ H v w vv ww Q I rv rw' h hs
  obtain ⟨hid, ρ, S, x, y, so, rx, ry, h⟩ := h
  obtain ⟨z, e, hh⟩ := h.of
  clear h
  unfold item at e
  split at e
  · rename_i xs
    obtain ⟨k, ey, e⟩ := itemOf_int e
    subst ey
    obtain ⟨a, vs, ea, h1, r1⟩ := rx.tup_
    obtain ⟨u, hu', r2⟩ := r1.atI e
    subst ea
    cases ry.int_
    refine ix_tup value slice pins s σ H _ _ _ _ Q I rv rw' ⟨a, vs, k, u, rfl, rfl, SqT.of h1, hu', ?_⟩ hs
    exact fin_same so hh r2.2 (.of_st r2.1)
  · rename_i bs
    split at e
    · rename_i hz
      cases hc : itemOf bs y with
      | none => rw [hc] at e; cases e
      | some c =>
        rw [hc] at e
        cases e
        obtain ⟨k, ey, e⟩ := itemOf_int hc
        subst ey
        cases rx.str_; cases ry.int_
        refine ix_str value slice pins s σ H _ _ _ _ Q I rv rw' ⟨_, k, c, rfl, rfl, ?_, ?_, fin_same so hh .of_str⟩ hs
        · rw [strOf_len, ← lim_eq]; exact hz
        · rw [strOf_list, ← atI_eq]; exact e
    · cases e
  · split at e
    · rename_i xs hl
      obtain ⟨k, ey, e⟩ := itemOf_int e
      subst ey
      obtain ⟨a, vs, ea, h1, r1⟩ := asList_rep so hl rx
      obtain ⟨u, hu', r2⟩ := r1.atI e
      subst ea
      cases ry.int_
      refine ix_list value slice pins s σ H _ _ _ _ Q I rv rw' ⟨a, vs, k, u, rfl, rfl, .inl h1, hu', ?_⟩ hs
      exact fin_same so hh r2.2 (.of_st r2.1)
    · unfold itemDic at e
      split at e
      · rename_i t kvs hd
        split at e
        · rename_i hk
          obtain ⟨a, o, ea, g, _, hy⟩ := dget_rep so hd rx hk ry
          obtain ⟨u, eo, r2⟩ := hy z e
          subst eo ea
          refine ix_dict hu value slice pins s σ H _ _ _ _ Q I rv rw' ⟨a, u, rfl, g, ?_⟩ hs
          exact fin_same so hh r2.2 (.of_st r2.1)
        · cases e
      · cases e

/-! ### slices -/
def rSl (K : PySem.W.Frag) : V → Option Int → Option Int → Hp → VK → Prop := fun v lo hi H Q => ∃ hid ρ S x, SOk K hid ρ H S ∧ Rep K hid ρ H x v ∧ Out K hid ρ H (R.of (QE.slice S x lo hi) S) (Gv K hid H Q)
theorem sl_Q : SlR X (rSl X.K) := by
  intro pins s σ H v vv vl vu lo hi sl Q I rv hs pl pu h
  obtain ⟨hid, ρ, S, x, so, rx, h⟩ := h
  obtain ⟨z, e, hh⟩ := h.of
  clear h
  unfold QE.slice at e
  split at e
  · rename_i xs
    cases e
    obtain ⟨a, vs, ea, h1, r1⟩ := rx.tup_
    subst ea
    refine sl_tupA pins s σ H _ _ vl vu lo hi sl Q I rv hs pl pu ⟨a, vs, rfl, SqT.of h1, fun hw => ?_, fun _ p hp => fin_new so hh hp (rep_newT hp (r1.cut lo hi)) trivial⟩
    have e1 : cut xs lo hi = xs := by
      unfold QE.cut
      rw [clip_sIx, clip_sIx]
      rw [r1.length] at hw
      rw [hw.1, hw.2]
      simp
    rw [e1] at hh
    exact fin_same so hh (.of_tup h1 r1) trivial
  · rename_i bs
    split at e <;> cases e
    rename_i hz
    cases rx.str_
    refine sl_str pins s σ H _ _ vl vu lo hi sl Q I rv hs pl pu ⟨_, rfl, by rw [strOf_len, ← lim_eq]; exact hz, ?_⟩
    have e1 : cutS (strOf bs) lo hi = strOf (cut bs lo hi) := by
      unfold cutS QE.cut
      rw [strOf_list, strOf_len, clip_sIx, clip_sIx]
      rfl
    rw [e1]
    exact fin_same so hh .of_str trivial
  · split at e <;> cases e
    rename_i xs hl
    obtain ⟨a, vs, ea, h1, r1⟩ := asList_rep so hl rx
    subst ea
    exact sl_list pins s σ H _ _ vl vu lo hi sl Q I rv hs pl pu ⟨a, vs, rfl, .inl h1, fun p hp => fin_new so hh hp (rep_newL so hp (r1.cut lo hi)) (fresh_newL so hp hp (r1.cut lo hi))⟩

/-! ### built-ins -/
def rBi (K : PySem.W.Frag) (f : Sto → List Val → Option Val) : List V → Hp → VK → Prop := fun vs H Q => ∃ hid ρ S xs, SOk K hid ρ H S ∧ RepL K hid ρ H xs vs ∧ Out K hid ρ H (R.of (f S xs) S) (Gv K hid H Q)
section
variable {K : PySem.W.Frag} {hid ρ : List Addr} {H : Hp} {S : Sto}
theorem RepL.one {x : Val} {vs : List V} (r : RepL K hid ρ H [x] vs) : ∃ v, vs = [v] ∧ Rep K hid ρ H x v := by
  simp only [RepL] at r
  obtain ⟨v, w, e, r1, r2⟩ := r
  exact ⟨v, by rw [e, r2], r1.2⟩
theorem RepL.two {x y : Val} {vs : List V} (r : RepL K hid ρ H [x, y] vs) : ∃ v w, vs = [v, w] ∧ Rep K hid ρ H x v ∧ Rep K hid ρ H y w := by
  simp only [RepL] at r
  obtain ⟨v, w, e, r1, u, l, e2, r2, r3⟩ := r
  exact ⟨v, u, by rw [e, e2, r3], r1.2, r2.2⟩
theorem bools_rep : ∀ {xs : List Val} {vs : List V} {bs : List Bool}, RepL K hid ρ H xs vs → bools? xs = some bs → vs = bs.map V.bl
  | [], vs, bs, r, e => by
    simp only [RepL] at r
    simp only [bools?] at e
    cases e
    exact r
  | x :: xs, vs, bs, r, e => by
    simp only [RepL] at r
    obtain ⟨v, w, e1, r1, r2⟩ := r
    cases x <;> simp only [bools?] at e <;> try (cases e; done)
    split at e <;> cases e
    rename_i l hl
    rw [e1, r1.2.bl_, bools_rep r2 hl]
    rfl
theorem boolsOf_rep (so : SOk K hid ρ H S) {x : Val} {v : V} {bs : List Bool} (e : boolsV S x = some bs) (r : Rep K hid ρ H x v) : ∃ a, v = .ref a ∧ SqL K H a (bs.map V.bl) := by
  unfold boolsV at e
  split at e
  · rename_i xs hl
    obtain ⟨a, vs, ea, h1, r1⟩ := asList_rep so hl r
    exact ⟨a, ea, by rw [← bools_rep r1 e]; exact .inl h1⟩
  · cases e
theorem intsOf_rep (so : SOk K hid ρ H S) {x : Val} {v : V} {is : List Int} (e : intsV S x = some is) (r : Rep K hid ρ H x v) : ∃ a, v = .ref a ∧ SqL K H a (is.map V.int) := by
  unfold intsV at e
  split at e
  · rename_i xs hl
    obtain ⟨a, vs, ea, h1, r1⟩ := asList_rep so hl r
    exact ⟨a, ea, by rw [← ints_rep r1 e]; exact .inl h1⟩
  · cases e
end
theorem cr_len : CallR X (.builtin "len") (rBi X.K fun S xs => callBi S .len xs) := by
  intro pins s σ H vs us Q I r h
  obtain ⟨hid, ρ, S, xs, so, rx, h⟩ := h
  obtain ⟨z, e, hh⟩ := h.of
  clear h
  match xs, rx, e with
  | [x], rx, e =>
    obtain ⟨v, ev, r1⟩ := rx.one
    subst ev
    simp only [callBi, lenOf] at e
    split at e
    · split at e <;> cases e
      rename_i hz
      cases r1.str_
      refine call_len_str pins s σ H _ _ Q I r ⟨_, rfl, by rw [strOf_len, ← lim_eq]; exact hz, ?_⟩
      rw [strOf_len]
      exact fin_same so hh .of_int trivial
    · split at e <;> cases e
      rename_i ys hl
      obtain ⟨a, ws, ea, h1, r2⟩ := asSeq_rep so hl r1
      subst ea
      refine call_len_seq pins s σ H _ _ Q I r ⟨a, ws, rfl, h1, ?_⟩
      rw [r2.length]
      exact fin_same so hh .of_int trivial
theorem cr_allQ (hc : X.calm = true) : CallR X (.builtin "all") (rBi X.K fun S xs => callBi S .all xs) := by
  intro pins s σ H vs us Q I r h
  obtain ⟨hid, ρ, S, xs, so, rx, h⟩ := h
  obtain ⟨z, e, hh⟩ := h.of
  clear h
  match xs, rx, e with
  | [x], rx, e =>
    obtain ⟨v, ev, r1⟩ := rx.one
    subst ev
    simp only [callBi] at e
    split at e <;> cases e
    rename_i bs hb
    obtain ⟨a, ea, h1⟩ := boolsOf_rep so hb r1
    subst ea
    exact cr_all hc pins s σ H _ _ Q I r ⟨a, bs, rfl, h1, fin_same so hh .of_bl trivial⟩
theorem cr_anyQ (hc : X.calm = true) : CallR X (.builtin "any") (rBi X.K fun S xs => callBi S .any xs) := by
  intro pins s σ H vs us Q I r h
  obtain ⟨hid, ρ, S, xs, so, rx, h⟩ := h
  obtain ⟨z, e, hh⟩ := h.of
  clear h
  match xs, rx, e with
  | [x], rx, e =>
    obtain ⟨v, ev, r1⟩ := rx.one
    subst ev
    simp only [callBi] at e
    split at e <;> cases e
    rename_i bs hb
    obtain ⟨a, ea, h1⟩ := boolsOf_rep so hb r1
    subst ea
    exact cr_any hc pins s σ H _ _ Q I r ⟨a, bs, rfl, h1, fin_same so hh .of_bl trivial⟩
theorem cr_sumQ (hc : X.calm = true) : CallR X (.builtin "sum") (rBi X.K fun S xs => callBi S .sum xs) := by
  intro pins s σ H vs us Q I r h
  obtain ⟨hid, ρ, S, xs, so, rx, h⟩ := h
  obtain ⟨z, e, hh⟩ := h.of
  clear h
  match xs, rx, e with
  | [x], rx, e =>
    obtain ⟨v, ev, r1⟩ := rx.one
    subst ev
    simp only [callBi] at e
    split at e <;> cases e
    rename_i bs hb
    obtain ⟨a, ea, h1⟩ := intsOf_rep so hb r1
    subst ea
    exact cr_sum hc pins s σ H _ _ Q I r ⟨a, bs, rfl, h1, fin_same so hh .of_int trivial⟩
theorem cr_listQ : CallR X (.type "list") (rBi X.K fun S xs => callBi S .list xs) := by
  intro pins s σ H vs us Q I r h
  obtain ⟨hid, ρ, S, xs, so, rx, h⟩ := h
  obtain ⟨z, e, hh⟩ := h.of
  clear h
  match xs, rx, e with
  | [x], rx, e =>
    obtain ⟨v, ev, r1⟩ := rx.one
    subst ev
    simp only [callBi, listOf] at e
    split at e
    · rename_i ns
      cases e
      simp only [Rep] at r1
      obtain ⟨a, ea, hk⟩ := r1
      subst ea
      have r2 : RepL X.K hid ρ H (ns.map .int) (ns.map V.int) := by
        clear hk hh rx e
        induction ns with
        | nil => exact .nil
        | cons n ns ih => exact .cons ⟨rfl, .of_int⟩ ih
      exact call_list_of pins s σ H _ _ Q I r ⟨a, _, rfl, .inl (.inr hk), fun p hp => fin_new so hh hp (rep_newL so hp r2) (fresh_newL so hp hp r2)⟩
    split at e <;> cases e
    rename_i ys hl
    obtain ⟨a, ws, ea, h1, r2⟩ := asSeq_rep so hl r1
    subst ea
    exact call_list_of pins s σ H _ _ Q I r ⟨a, ws, rfl, h1, fun p hp => fin_new so hh hp (rep_newL so hp r2) (fresh_newL so hp hp r2)⟩
theorem cr_tupleQ : CallR X (.type "tuple") (rBi X.K fun S xs => callBi S .tuple xs) := by
  intro pins s σ H vs us Q I r h
  obtain ⟨hid, ρ, S, xs, so, rx, h⟩ := h
  obtain ⟨z, e, hh⟩ := h.of
  clear h
  match xs, rx, e with
  | [x], rx, e =>
    obtain ⟨v, ev, r1⟩ := rx.one
    subst ev
    simp only [callBi, tupleOf] at e
    split at e <;> cases e
    rename_i ys hl
    cases x with
    | tup zs =>
      simp only [asSeq, Option.some.injEq] at hl
      subst hl
      obtain ⟨a, ws, ea, h1, r2⟩ := r1.tup_
      subst ea
      exact call_tuple_of pins s σ H _ _ Q I r ⟨a, ws, rfl, .inr ⟨SqT.of h1, fin_same so hh (.of_tup h1 r2) trivial⟩⟩
    | _ =>
      obtain ⟨a, ws, ea, h1, r2⟩ := asList_rep so (by simpa only [asSeq] using hl) r1
      subst ea
      exact call_tuple_of pins s σ H _ _ Q I r ⟨a, ws, rfl, .inl ⟨.inl h1, fun p hp => fin_new so hh hp (rep_newT hp r2) trivial⟩⟩
theorem cr_min2Q (hc : X.calm = true) : CallR X (.builtin "min") (rBi X.K fun S xs => callBi S .min2 xs) := by
  intro pins s σ H vs us Q I r h
  obtain ⟨hid, ρ, S, xs, so, rx, h⟩ := h
  obtain ⟨z, e, hh⟩ := h.of
  clear h
  simp only [callBi] at e
  split at e <;> first
    | (rename_i hb; cases hb; done)
    | skip
  all_goals first
    | (cases e
       obtain ⟨v, w, ev, r1, r2⟩ := rx.two
       subst ev
       cases r1.int_; cases r2.int_
       exact call_min2 hc pins s σ H _ _ Q I r ⟨_, _, rfl, fin_same so hh .of_int trivial⟩)
    | (cases e; done)
theorem cr_max2Q (hc : X.calm = true) : CallR X (.builtin "max") (rBi X.K fun S xs => callBi S .max2 xs) := by
  intro pins s σ H vs us Q I r h
  obtain ⟨hid, ρ, S, xs, so, rx, h⟩ := h
  obtain ⟨z, e, hh⟩ := h.of
  clear h
  simp only [callBi] at e
  split at e <;> first
    | (rename_i hb; cases hb; done)
    | skip
  all_goals first
    | (cases e
       obtain ⟨v, w, ev, r1, r2⟩ := rx.two
       subst ev
       cases r1.int_; cases r2.int_
       exact call_max2 hc pins s σ H _ _ Q I r ⟨_, _, rfl, fin_same so hh .of_int trivial⟩)
    | (cases e; done)
theorem cr_absQ : CallR X (.builtin "abs") (rBi X.K fun S xs => callBi S .abs xs) := by
  intro pins s σ H vs us Q I r h
  obtain ⟨hid, ρ, S, xs, so, rx, h⟩ := h
  obtain ⟨z, e, hh⟩ := h.of
  clear h
  simp only [callBi] at e
  split at e <;> first
    | (rename_i hb; cases hb; done)
    | skip
  all_goals first
    | (cases e
       obtain ⟨v, ev, r1⟩ := rx.one
       subst ev
       cases r1.int_
       exact call_abs pins s σ H _ _ Q I r ⟨_, rfl, fin_same so hh .of_int trivial⟩)
    | (cases e; done)
theorem cr_intQ : CallR X (.type "int") (rBi X.K fun S xs => callBi S .int xs) := by
  intro pins s σ H vs us Q I r h
  obtain ⟨hid, ρ, S, xs, so, rx, h⟩ := h
  obtain ⟨z, e, hh⟩ := h.of
  clear h
  simp only [callBi] at e
  split at e <;> first
    | (rename_i hb; cases hb; done)
    | skip
  all_goals first
    | (cases e
       obtain ⟨v, ev, r1⟩ := rx.one
       subst ev
       cases r1.int_
       exact call_int1 pins s σ H _ _ Q I r (.inl ⟨_, rfl, fin_same so hh .of_int trivial⟩))
    | (cases e; done)
theorem figs_num : ∀ (f n : Nat) (acc : List Nat), n < 10 ^ f → 0 < f → figs f n acc = TL.numL n ++ acc
  | 0, _, _, _, h => by omega
  | 1, n, acc, h, _ => by
    have h1 : n < 10 := by simpa using h
    rw [figs, if_pos h1, TL.numL_lt h1]
    rfl
  | f + 2, n, acc, h, _ => by
    rw [figs]
    by_cases h1 : n < 10
    · rw [if_pos h1, TL.numL_lt h1]; rfl
    · have h2 : n / 10 < 10 ^ (f + 1) := by
        have e : 10 ^ (f + 2) = 10 ^ (f + 1) * 10 := Nat.pow_succ ..
        rw [e] at h
        exact Nat.div_lt_of_lt_mul (by rw [Nat.mul_comm]; exact h)
      rw [if_neg h1, figs_num (f + 1) (n / 10) _ h2 (by omega)]
      have h3 := TL.numL_step (n := n) (by omega)
      rw [h3, List.append_assoc]
      rfl
theorem cr_strQ : CallR X (.type "str") (rBi X.K fun S xs => callBi S .str xs) := by
  intro pins s σ H vs us Q I r h
  obtain ⟨hid, ρ, S, xs, so, rx, h⟩ := h
  obtain ⟨z, e, hh⟩ := h.of
  clear h
  match xs, rx, e with
  | [x], rx, e =>
    obtain ⟨v, ev, r1⟩ := rx.one
    subst ev
    simp only [callBi, strVal] at e
    split at e
    · rename_i n
      split at e <;> cases e
      rename_i hn
      cases r1.int_
      refine call_str_int pins s σ H _ _ Q I r ⟨n, rfl, ?_, ?_⟩
      · by_cases h0 : n.natAbs = 0
        · rw [h0]; decide
        · exact Nat.lt_trans ((Nat.log2_lt (k := 34) h0).mpr (by omega)) (by decide)
      · have e1 : Str.ofString (toString n) = strOf (figs 10 n.toNat []) := by
          rw [figs_num 10 n.toNat [] (by omega) (by decide), List.append_nil]
          have := SX.num_S n.toNat
          rw [show ((n.toNat : Nat) : Int) = n by omega] at this
          exact this
        have e2 : (V.str (toString n : String)) = V.str (strOf (figs 10 n.toNat [])) := by rw [← e1]
        rw [e2]
        exact fin_same so hh .of_str trivial
    · cases e
      cases r1.str_
      exact SkE.call_str_str pins s σ H _ _ Q I r ⟨_, rfl, fin_same so hh .of_str trivial⟩
    · cases e
end
end QE

set_option Elab.async false
set_option linter.all false
set_option maxRecDepth 10000
set_option maxHeartbeats 1000000
/-! isinstance, methods, cells, by values. -/
namespace QE
open PySem PySem.Spec PyProof.Rows L2
def tyStr : Ty → String
  | .int => "int"
  | .bool => "bool"
  | .str => "str"
  | .tuple => "tuple"
  | .list => "list"
theorem kit_tys : ∀ u t : Ty, kitB (tyStr u) (tyStr t) = some (decide (u = t) || (decide (u = .bool) && decide (t = .int))) := by
  intro u t
  cases u <;> cases t <;> decide +kernel
theorem kit_non : ∀ t : Ty, kitB "NoneType" (tyStr t) = some false := by
  intro t
  cases t <;> decide +kernel
section
variable {K : PySem.W.Frag} {hid ρ : List Addr} {H : Hp} {S : Sto}
theorem ty_rd {a : Addr} {vs : List V} (h : Rd H a (.lst vs)) : TyX K H (.ref a) (.type "list") := by
  rcases h with h | ⟨o, h⟩
  · exact .base (.lst h)
  · exact .base (.frz h)
theorem ty_rep (so : SOk K hid ρ H S) {x : Val} {v : V} {u : Ty} (e : tyName S x = some u) (r : Rep K hid ρ H x v) : TyX K H v (.type (tyStr u)) := by
  cases x <;> simp only [tyName] at e <;> try (cases e; done)
  · cases e; cases r.bl_; exact .base (.bl _)
  · cases e; cases r.int_; exact .base (.int _)
  · cases e; cases r.str_; exact .base (.str _)
  · cases e; obtain ⟨a, vs, ea, h1, _⟩ := r.tup_; subst ea; exact .base (.tup h1)
  · cases e
    simp only [Rep] at r
    obtain ⟨a, vs, ea, h1, _⟩ := r
    subst ea
    exact ty_rd h1.rd
  · split at e <;> cases e
    rename_i xs q
    simp only [Rep] at r
    obtain ⟨a, h1, h2⟩ := r
    obtain ⟨b, h3, vs, h4, _⟩ := so.ob _ _ q
    rw [h1] at h3; cases h3
    subst h2
    exact .base (.lst h4)
end
section
variable {X : Cx}
def rIs (K : PySem.W.Frag) (t : Ty) : List V → Hp → VK → Prop := fun vs H Q => ∃ hid ρ S x v b, vs = [v, .ty (tyStr t)] ∧ SOk K hid ρ H S ∧ Rep K hid ρ H x v ∧ isTy S t x = some b ∧ Q (.bl b) H
theorem cr_isQ {t : Ty} : CallR X (.builtin "isinstance") (rIs X.K t) := by
  intro pins s σ H vs us Q I r h
  obtain ⟨hid, ρ, S, x, v, b, ev, so, rx, e, q⟩ := h
  unfold isTy at e
  split at e
  · rename_i u hu
    cases e
    exact call_isi pins s σ H _ _ Q I r ⟨v, _, _, _, _, ev, .ty _, ty_rep so hu rx, kit_ty (kit_tys u t), q⟩
  · split at e <;> cases e
    rename_i hn
    cases x <;> simp only [isNon] at hn <;> try (cases hn; done)
    cases rx.non_
    exact call_isi pins s σ H _ _ Q I r ⟨_, _, _, _, _, ev, .ty _, .base .non, kit_ty (kit_non t), q⟩

/-! ### methods that change nothing -/
def rMe (K : PySem.W.Frag) (m : Me) : V → List V → Hp → VK → Prop := fun v vs H Q => ∃ hid ρ S x xs, SOk K hid ρ H S ∧ Rep K hid ρ H x v ∧ RepL K hid ρ H xs vs ∧ Out K hid ρ H (R.of (callMe S m x xs) S) (Gv K hid H Q)
theorem mt_countQ : MtR X "list.count" (rMe X.K .count) := by
  intro pins s σ H v vs vv us Q I rv rvs h
  obtain ⟨hid, ρ, S, x, xs, so, rx, rxs, h⟩ := h
  obtain ⟨z, e, hh⟩ := h.of
  clear h
  unfold callMe at e
  split at e
  · split at e <;> cases e
    rename_i is hi
    obtain ⟨a, ea, h1⟩ := intsOf_rep so hi rx
    obtain ⟨w, ew, r1⟩ := rxs.one
    subst ea ew
    cases r1.int_
    exact mt_lcount pins s σ H _ _ _ _ Q I rv rvs ⟨a, is, _, rfl, rfl, h1, fin_same so hh .of_int trivial⟩
  · rename_i hm
    cases hm
  · cases e
theorem pdL_get {x : Val} : ∀ {xs : List Val} {i : Nat}, xs[i]? = some x → (pdL xs)[i]? = some (pd x)
  | [], _, h => by simp at h
  | y :: ys, 0, h => by simp at h; subst h; simp [pdL]
  | y :: ys, i + 1, h => by simpa [pdL] using pdL_get (i := i) (by simpa using h)
theorem pdL_of {z : PyData} : ∀ {xs : List Val} {i : Nat}, (pdL xs)[i]? = some z → ∃ x, xs[i]? = some x ∧ z = pd x
  | [], _, h => by simp [pdL] at h
  | y :: ys, 0, h => by simp [pdL] at h; exact ⟨y, rfl, h.symm⟩
  | y :: ys, i + 1, h => by
    obtain ⟨x, h1, h2⟩ := pdL_of (xs := ys) (i := i) (by simpa [pdL] using h)
    exact ⟨x, by simpa using h1, h2⟩
theorem indexOf_ok {x : Val} : ∀ {xs : List Val} {n j : Nat}, indexOf x xs n = some j → n ≤ j ∧ ∃ y, xs[j - n]? = some y ∧ y.eqv x = true ∧ ∀ m z, m < j - n → xs[m]? = some z → z.eqv x = false
  | [], n, j, h => by simp [indexOf] at h
  | y :: ys, n, j, h => by
    unfold indexOf at h
    split at h
    · cases h
      rename_i hy
      refine ⟨Nat.le_refl _, y, by simp, hy, fun m z hm => by omega⟩
    · rename_i hy
      obtain ⟨h1, z, h2, h3, h4⟩ := indexOf_ok h
      refine ⟨by omega, z, ?_, h3, fun m w hm hw => ?_⟩
      · rw [show j - n = (j - (n + 1)) + 1 by omega]; simpa using h2
      · cases m with
        | zero => simp at hw; subst hw; simpa using hy
        | succ m => exact h4 m w (by omega) (by simpa using hw)
theorem chkL_get {x : Val} {d : Nat} : ∀ {xs : List Val} {i : Nat}, Val.chkL d xs = true → xs[i]? = some x → x.chk d = true
  | [], _, _, h => by simp at h
  | y :: ys, 0, h, e => by simp at e; subst e; simp only [Val.chkL, Bool.and_eq_true] at h; exact h.1
  | y :: ys, i + 1, h, e => by
    simp only [Val.chkL, Bool.and_eq_true] at h
    exact chkL_get (i := i) h.2 (by simpa using e)
theorem mt_indexQ (hu : X.A.units + 65 < cLine) : MtR X "list.index" (rMe X.K .index) := by
  intro pins s σ H v vs vv us Q I rv rvs h
  obtain ⟨hid, ρ, S, x, xs, so, rx, rxs, h⟩ := h
  obtain ⟨z, e, hh⟩ := h.of
  clear h
  unfold callMe at e
  split at e
  · rename_i hm
    cases hm
  · rename_i y _
    split at e
    · rename_i ys hl
      unfold idxOf at e
      split at e
      · rename_i hc
        simp only [Bool.and_eq_true] at hc
        split at e <;> cases e
        rename_i j hj
        obtain ⟨_, w, h2, h3, h4⟩ := indexOf_ok hj
        obtain ⟨a, ws, ea, h1, r1⟩ := asList_rep so hl rx
        obtain ⟨u, ew, r2⟩ := rxs.one
        subst ea ew
        rw [Nat.sub_zero] at h2 h4
        refine mt_indexD hu pins s σ H _ _ _ _ Q I rv rvs ⟨a, u, pd y, pdL ys, j, pd w, rfl, rfl, dp_list so hl rx hc.2, dp_of 64 y u hc.1 r2, (pdL_shaped hc.2).1, pd_shaped hc.1, pdL_get h2, ?_, fun m z' hm hz => ?_, fin_same so hh .of_int trivial⟩
        · rw [← pd_eqv w y 63 64 (chkL_get hc.2 h2) hc.1]; exact h3
        · obtain ⟨x', h5, rfl⟩ := pdL_of hz
          rw [← pd_eqv x' y 63 64 (chkL_get hc.2 h5) hc.1]
          exact h4 m x' hm h5
      · cases e
    · cases e
  · cases e
end

/-! ### cells -/
/-- what may be rewritten in a cell -/
def CellO : HO → Prop
  | .lst _ => True
  | .dK _ => True
  | .dT _ => True
  | _ => False
theorem Ext.write {ρ : List Addr} {H : Hp} {a : Addr} {u o : HO} (ha : a ∈ ρ) (hu : H a = some u) (hc : CellO u) : Ext ρ H ρ (upd H a o) := by
  refine ⟨⟨[], by simp, by simp⟩, fun b w e hb => ?_, fun b w e => ?_, fun b xs e => ?_, fun b w x e => ?_⟩
  · rw [upd_ne (fun z => hb (by rw [z]; exact ha))]; exact e
  · by_cases z : b = a
    · subst z; exact ⟨o, upd_same⟩
    · exact ⟨w, by rw [upd_ne z]; exact e⟩
  · rw [upd_ne (fun z => by subst z; rw [hu] at e; cases e; exact hc)]; exact e
  · rw [upd_ne (fun z => by subst z; rw [hu] at e; cases e; exact hc)]; exact e
section
variable {K : PySem.W.Frag} {hid ρ : List Addr} {H : Hp} {S : Sto}
theorem SOk.write (s : SOk K hid ρ H S) {n : Nat} {a : Addr} (ha : ρ[n]? = some a) {u o : HO} (hu : H a = some u) (hc : CellO u) {ob : Ob} (new : ObRep K hid ρ (upd H a o) a ob) : SOk K hid ρ (upd H a o) (S.set n ob) := by
  have hm : a ∈ ρ := List.mem_of_getElem? ha
  have ex : Ext ρ H ρ (upd H a o) := Ext.write hm hu hc
  refine ⟨by rw [List.length_set]; exact s.len, s.nd, s.apart, fun b hb => ?_, fun m w q => ?_⟩
  · obtain ⟨x, hx⟩ := s.hidd b hb
    exact ex.there b x hx
  · by_cases hmn : n = m
    · subst hmn
      have hl : n < S.length := by
        have := (List.getElem?_eq_some_iff.mp ha).1
        rw [s.len] at this; exact this
      rw [List.getElem?_set_self hl] at q
      cases q
      exact ⟨a, ha, new⟩
    · rw [List.getElem?_set_ne hmn] at q
      obtain ⟨b, h1, h2⟩ := s.ob m w q
      refine ⟨b, h1, h2.mono ex (upd_ne ?_)⟩
      intro z
      subst z
      obtain ⟨l1, e1⟩ := List.getElem?_eq_some_iff.mp ha
      obtain ⟨l2, e2⟩ := List.getElem?_eq_some_iff.mp h1
      exact hmn ((List.getElem_inj s.nd).mp (e1.trans e2.symm))
/-- a cell's own object -/
theorem SOk.cell (s : SOk K hid ρ H S) {n : Nat} {v : V} {ob : Ob} (r : Rep K hid ρ H (.ref n) v) (q : S[n]? = some ob) : ∃ a, v = .ref a ∧ ρ[n]? = some a ∧ ObRep K hid ρ H a ob := by
  simp only [Rep] at r
  obtain ⟨a, h1, h2⟩ := r
  obtain ⟨b, h3, h4⟩ := s.ob n _ q
  rw [h1] at h3; cases h3
  exact ⟨a, h2, h1, h4⟩
end
section
variable {X : Cx}
def rApp (K : PySem.W.Frag) (b : Nat) : V → List V → Hp → VK → Prop := fun v vs H Q => ∃ hid ρ S x y w, vs = [w] ∧ SOk K hid ρ H S ∧ Rep K hid ρ H x v ∧ Rep K hid ρ H y w ∧ Out K hid ρ H (QE.append b S x y) (Gv K hid H Q)
theorem mt_appQ {b : Nat} : MtR X "list.append" (rApp X.K b) := by
  intro pins s σ H v vs vv us Q I rv rvs h
  obtain ⟨hid, ρ, S, x, y, w, ew, so, rx, ry, h⟩ := h
  subst ew
  unfold QE.append at h
  split at h
  · rename_i n
    split at h
    · rename_i xs hq
      split at h
      · rename_i hc
        simp only [Bool.and_eq_true, decide_eq_true_eq] at hc
        obtain ⟨a, ea, ha, ws, h4, r4⟩ := so.cell rx hq
        subst ea
        refine mt_append pins s σ H _ _ _ _ Q I rv rvs ⟨a, ws, w, rfl, rfl, h4, by rw [r4.length, ← lim_eq]; exact hc.1, ?_⟩
        have ex : Ext ρ H ρ (upd H a (.lst (ws ++ [w]))) := Ext.write (List.mem_of_getElem? ha) h4 trivial
        exact h ρ _ ex (so.write ha h4 trivial ⟨_, upd_same, (RepL.mono ex _ _ r4).app (RepL.cons ⟨st_settle y, (Rep.mono ex _ _ ry).settle⟩ .nil)⟩) _ .of_non trivial
      · exact h.elim
    · exact h.elim
  · exact h.elim
theorem iop_extR : OpR X (inplaceOp .Add) (fun x y H Q => ∃ l b xs zs, x = .ref l ∧ y = .ref b ∧ H l = some (.lst xs) ∧ Rd H b (.lst zs) ∧ xs.length + zs.length ≤ sizeLine ∧ Q (.ref l) (upd H l (.lst (xs ++ zs)))) := by
  intro pins s σ H x y v u Q I rx ry h
  obtain ⟨l, b, xs, zs, ex, ey, hH, hB, hz, q⟩ := h
  subst ex ey
  cases rx
  cases ry
  obtain ⟨z, its, n, r, hl, e⟩ := I.lstM hH
  obtain ⟨z2, its2, n2, r2, e2⟩ := hB.ok I.hok
  have hl2 := r2.length
  have hsz : its.toArray.size + its2.toArray.size ≤ sizeLine := by
    simp only [List.size_toArray]
    omega
  have hno : ¬ (!its.toArray.isEmpty && Builtin.List.listTooLong (its.toArray.size + its2.toArray.size)) = true := fun z => by
    rw [notLongL hsz, Bool.and_false] at z
    exact Bool.noConfusion z
  refine iadd_road ⟨_, e, rfl⟩ ⟨_, e2, rfl⟩ (call_meets PySem.F.slot_list_iadd ⟨_, e, rfl⟩ PySem.F.entry_list_iadd (PySem.F.args_list_iadd_2 _ _)
    (AutoSeq1.list___iadd___list_list_0 l its.toArray n b its2.toArray n2 hno (by simp only [List.size_toArray]; omega) (by omega)) ⟨e, e2, ?_⟩)
  exact ⟨.ref l, _, I.lset (its' := its ++ its2) (t' := s.toks) hH e (by simp) (r.append r2) (by rw [List.length_append]; omega), rfl, q⟩
def rExt (K : PySem.W.Frag) (b : Nat) : R2 := fun v w H Q => ∃ hid ρ S x y, SOk K hid ρ H S ∧ Rep K hid ρ H x v ∧ Rep K hid ρ H y w ∧ Out K hid ρ H (QE.extend b S x y) fun z _ ρ' H' => ∀ u, Rep K hid ρ' H' z u → Q u H'
theorem iop_Q {b : Nat} : OpR X (inplaceOp .Add) (rExt X.K b) := by
  intro pins s σ H v w vv ww Q I rv rw' h
  obtain ⟨hid, ρ, S, x, y, so, rx, ry, h⟩ := h
  unfold QE.extend at h
  split at h
  · rename_i n
    split at h
    · rename_i xs ys hq hl
      split at h
      · rename_i hc
        simp only [Bool.and_eq_true, decide_eq_true_eq] at hc
        obtain ⟨a, ea, ha, ws, h4, r4⟩ := so.cell rx hq
        obtain ⟨c, zs, ec, h5, r5⟩ := asList_rep so hl ry
        subst ea ec
        refine iop_extR pins s σ H _ _ _ _ Q I rv rw' ⟨a, c, ws, zs, rfl, rfl, h4, h5, by rw [r4.length, r5.length, ← lim_eq]; exact hc.1, ?_⟩
        have ex : Ext ρ H ρ (upd H a (.lst (ws ++ zs))) := Ext.write (List.mem_of_getElem? ha) h4 trivial
        exact h ρ _ ex (so.write ha h4 trivial ⟨_, upd_same, (RepL.mono ex _ _ r4).app (RepL.mono ex _ _ r5)⟩) _ (Rep.mono ex _ _ rx)
      · exact h.elim
    · exact h.elim
  · exact h.elim
/-- o[i] = v -/
def rSet (K : PySem.W.Frag) (b : Nat) : TSet := fun o i v H Q => ∃ hid ρ S x y z, SOk K hid ρ H S ∧ Rep K hid ρ H x o ∧ Rep K hid ρ H y i ∧ Rep K hid ρ H z v ∧ Out K hid ρ H (QE.setIx b S x y z) fun _ _ _ H' => Q H'
section
variable {K : PySem.W.Frag} {hid ρ : List Addr} {H : Hp} {k x : Val} {v : V}
theorem RepT.has (hk : k.isKey true = true) : ∀ {kvs : List (Val × Val)} {ws : List (List L2.Key × V)}, RepT K hid ρ H kvs ws → (ws.any fun kv => decide (kv.1 = keysOf k)) = dHas k kvs
  | [], ws, q => by
    simp only [RepT] at q
    subst q
    rfl
  | (j, u) :: kvs, ws, q => by
    simp only [RepT] at q
    obtain ⟨w, r, e, hj, r1, r2⟩ := q
    subst e
    simp only [dHas, List.any_cons]
    rw [RepT.has hk r2, keyEq_t hj hk]
theorem RepT.map (hk : k.isKey true = true) (r : x.st = true ∧ Rep K hid ρ H x v) : ∀ {kvs : List (Val × Val)} {ws : List (List L2.Key × V)}, RepT K hid ρ H kvs ws →
    RepT K hid ρ H (dMap k x kvs) (ws.map fun kv => if kv.1 = keysOf k then (kv.1, v) else kv)
  | [], ws, q => by
    simp only [RepT] at q
    subst q
    simp only [dMap, RepT, List.map_nil]
  | (j, u) :: kvs, ws, q => by
    simp only [RepT] at q
    obtain ⟨w, l, e, hj, r1, r2⟩ := q
    subst e
    have ih := RepT.map hk r r2
    simp only [dMap, List.map_cons, keyEq_t hj hk, decide_eq_true_eq]
    by_cases z : keysOf j = keysOf k
    · rw [if_pos z, if_pos z]
      simp only [RepT]
      exact ⟨v, _, rfl, hj, r, ih⟩
    · rw [if_neg z, if_neg z]
      simp only [RepT]
      exact ⟨w, _, rfl, hj, r1, ih⟩
theorem RepT.snoc (hk : k.isKey true = true) (r : x.st = true ∧ Rep K hid ρ H x v) : ∀ {kvs : List (Val × Val)} {ws : List (List L2.Key × V)}, RepT K hid ρ H kvs ws →
    RepT K hid ρ H (kvs ++ [(k, x)]) (ws ++ [(keysOf k, v)])
  | [], ws, q => by
    simp only [RepT] at q
    subst q
    simp only [List.nil_append, RepT]
    exact ⟨v, [], rfl, hk, r, by simp only [RepT]⟩
  | (j, u) :: kvs, ws, q => by
    simp only [RepT] at q
    obtain ⟨w, l, e, hj, r1, r2⟩ := q
    subst e
    simp only [List.cons_append, RepT]
    exact ⟨w, _, rfl, hj, r1, RepT.snoc hk r r2⟩
theorem RepT.put (hk : k.isKey true = true) (r : x.st = true ∧ Rep K hid ρ H x v) {kvs : List (Val × Val)} {ws : List (List L2.Key × V)} (q : RepT K hid ρ H kvs ws) : RepT K hid ρ H (dPut k x kvs) (putK ws (keysOf k) v) := by
  unfold dPut putK
  rw [RepT.has hk q]
  split
  · exact q.map hk r
  · exact q.snoc hk r
theorem RepT.length : ∀ {kvs : List (Val × Val)} {ws : List (List L2.Key × V)}, RepT K hid ρ H kvs ws → ws.length = kvs.length
  | [], ws, q => by simp only [RepT] at q; subst q; rfl
  | (j, u) :: kvs, ws, q => by
    simp only [RepT] at q
    obtain ⟨w, l, e, hj, r1, r2⟩ := q
    subst e
    rw [List.length_cons, List.length_cons, RepT.length r2]
theorem RepK.has (hk : k.flatKey = true) : ∀ {kvs : List (Val × Val)} {ws : List (L2.Key × V)}, RepK K hid ρ H kvs ws → (ws.any fun kv => decide (kv.1 = keyOf k)) = dHas k kvs
  | [], ws, q => by
    simp only [RepK] at q
    subst q
    rfl
  | (j, u) :: kvs, ws, q => by
    simp only [RepK] at q
    obtain ⟨w, r, e, hj, r1, r2⟩ := q
    subst e
    simp only [dHas, List.any_cons]
    rw [RepK.has hk r2, keyEq_f hj hk]
theorem RepK.map (hk : k.flatKey = true) (r : x.st = true ∧ Rep K hid ρ H x v) : ∀ {kvs : List (Val × Val)} {ws : List (L2.Key × V)}, RepK K hid ρ H kvs ws →
    RepK K hid ρ H (dMap k x kvs) (ws.map fun kv => if kv.1 = keyOf k then (kv.1, v) else kv)
  | [], ws, q => by
    simp only [RepK] at q
    subst q
    simp only [dMap, RepK, List.map_nil]
  | (j, u) :: kvs, ws, q => by
    simp only [RepK] at q
    obtain ⟨w, l, e, hj, r1, r2⟩ := q
    subst e
    have ih := RepK.map hk r r2
    simp only [dMap, List.map_cons, keyEq_f hj hk, decide_eq_true_eq]
    by_cases z : keyOf j = keyOf k
    · rw [if_pos z, if_pos z]
      simp only [RepK]
      exact ⟨v, _, rfl, hj, r, ih⟩
    · rw [if_neg z, if_neg z]
      simp only [RepK]
      exact ⟨w, _, rfl, hj, r1, ih⟩
theorem RepK.snoc (hk : k.flatKey = true) (r : x.st = true ∧ Rep K hid ρ H x v) : ∀ {kvs : List (Val × Val)} {ws : List (L2.Key × V)}, RepK K hid ρ H kvs ws →
    RepK K hid ρ H (kvs ++ [(k, x)]) (ws ++ [(keyOf k, v)])
  | [], ws, q => by
    simp only [RepK] at q
    subst q
    simp only [List.nil_append, RepK]
    exact ⟨v, [], rfl, hk, r, by simp only [RepK]⟩
  | (j, u) :: kvs, ws, q => by
    simp only [RepK] at q
    obtain ⟨w, l, e, hj, r1, r2⟩ := q
    subst e
    simp only [List.cons_append, RepK]
    exact ⟨w, _, rfl, hj, r1, RepK.snoc hk r r2⟩
theorem RepK.put (hk : k.flatKey = true) (r : x.st = true ∧ Rep K hid ρ H x v) {kvs : List (Val × Val)} {ws : List (L2.Key × V)} (q : RepK K hid ρ H kvs ws) : RepK K hid ρ H (dPut k x kvs) (putK ws (keyOf k) v) := by
  unfold dPut putK
  rw [RepK.has hk q]
  split
  · exact q.map hk r
  · exact q.snoc hk r
theorem RepK.length : ∀ {kvs : List (Val × Val)} {ws : List (L2.Key × V)}, RepK K hid ρ H kvs ws → ws.length = kvs.length
  | [], ws, q => by simp only [RepK] at q; subst q; rfl
  | (j, u) :: kvs, ws, q => by
    simp only [RepK] at q
    obtain ⟨w, l, e, hj, r1, r2⟩ := q
    subst e
    rw [List.length_cons, List.length_cons, RepK.length r2]
end
theorem set_Q {b : Nat} (hu : X.A.units + 1 < cLine) : PSet X (rSet X.K b) := by
  intro pins s σ H o i v ov iv u Q I ro ri rv h
  obtain ⟨hid, ρ, S, x, y, z, so, rx, ry, rz, h⟩ := h
  unfold QE.setIx at h
  split at h
  · rename_i n
    split at h
    · rename_i xs hq
      split at h
      · rename_i k
        split at h
        · rename_i j hj
          split at h
          · obtain ⟨a, ea, ha, ws, h4, r4⟩ := so.cell rx hq
            subst ea
            cases ry.int_
            refine set_list pins s σ H _ _ _ _ _ _ Q I ro ri rv ⟨a, ws, k, j, rfl, rfl, h4, by rw [r4.length]; exact hj, ?_⟩
            have ex : Ext ρ H ρ (upd H a (.lst (ws.set j v))) := Ext.write (List.mem_of_getElem? ha) h4 trivial
            exact h ρ _ ex (so.write ha h4 trivial ⟨_, upd_same, RepL.set ⟨st_settle z, (Rep.mono ex _ _ rz).settle⟩ j (RepL.mono ex _ _ r4)⟩)
          · exact h.elim
        · exact h.elim
      · exact h.elim
    · rename_i t kvs hq
      split at h
      · rename_i hc
        simp only [Bool.and_eq_true, decide_eq_true_eq] at hc
        obtain ⟨⟨hk, hl⟩, _⟩ := hc
        obtain ⟨a, ea, ha, h4⟩ := so.cell rx hq
        subst ea
        have hm := List.mem_of_getElem? ha
        cases ro
        cases t with
        | true =>
          obtain ⟨ws, h4, r4⟩ := h4
          obtain ⟨ks, e2, h3⟩ := isKey_true hk
          subst e2
          obtain ⟨c, us, e3, h5, r5⟩ := ry.tup_
          have h6 := flatKeys_rep h3 r5
          subst e3 h6
          have g : DPut H a (.ref c) v (upd H a (.dT (putK ws (ks.map keyOf) v))) := DPut.t h4 h5 (by rw [r4.length, ← lim_eq]; exact hl)
          refine d_setItem hu I g ri rv fun s' I' => ⟨_, I', ?_⟩
          have ex : Ext ρ H ρ (upd H a (.dT (putK ws (ks.map keyOf) v))) := Ext.write hm h4 trivial
          exact h ρ _ ex (so.write ha h4 trivial ⟨_, upd_same, RepT.put hk ⟨st_settle z, (Rep.mono ex _ _ rz).settle⟩ (RepT.mono ex _ _ r4)⟩)
        | false =>
          obtain ⟨ws, h4, r4⟩ := h4
          have h3 : y.flatKey = true := by simpa [Val.isKey] using hk
          have h6 := flatKey_rep h3 ry
          subst h6
          have g : DPut H a (kV (keyOf y)) v (upd H a (.dK (putK ws (keyOf y) v))) := DPut.k h4 (by rw [r4.length, ← lim_eq]; exact hl)
          refine d_setItem hu I g ri rv fun s' I' => ⟨_, I', ?_⟩
          have ex : Ext ρ H ρ (upd H a (.dK (putK ws (keyOf y) v))) := Ext.write hm h4 trivial
          exact h ρ _ ex (so.write ha h4 trivial ⟨_, upd_same, RepK.put h3 ⟨st_settle z, (Rep.mono ex _ _ rz).settle⟩ (RepK.mono ex _ _ r4)⟩)
      · exact h.elim
    · exact h.elim
  · exact h.elim
end
end QE

set_option Elab.async false
set_option linter.all false
set_option maxRecDepth 10000
set_option maxHeartbeats 1000000
/-! Expressions: each construct's rule, by the rules of its parts. -/
namespace QE
open PySem PySem.Spec PyProof.Rows L2
section
variable {X : Cx}
theorem PE.imp {e : Expr} {t t' : TE} (h : PE X e t) (k : ∀ σ H Q, t' σ H Q → t σ H Q) : PE X e t' := ⟨fun pins s σ H Q I q => h.run pins s σ H Q I (k σ H Q q)⟩
theorem PT.imp {e : Expr} {t t' : TT} (h : PT X e t) (k : ∀ σ H Q, t' σ H Q → t σ H Q) : PT X e t' := ⟨fun pins s σ H Q I q => h.run pins s σ H Q I (k σ H Q q)⟩
theorem PW.imp {e : Expr} {t t' : TT} (h : PW X e t) (k : ∀ σ H Q, t' σ H Q → t σ H Q) : PW X e t' := ⟨fun wh pins s σ H Q I q => h.run wh pins s σ H Q I (k σ H Q q)⟩
theorem PTs.imp {e : List Expr} {t t' : TT} (h : PTs X e t) (k : ∀ σ H Q, t' σ H Q → t σ H Q) : PTs X e t' := ⟨fun pins s σ H Q I q => h.run pins s σ H Q I (k σ H Q q)⟩
theorem PA.imp {e : List Expr} {t t' : TA} (h : PA X e t) (k : ∀ σ H Q, t' σ H Q → t σ H Q) : PA X e t' := ⟨fun pos pins s σ H Q I q => h.run pos pins s σ H Q I (k σ H Q q)⟩
theorem PO.imp {e : Option Expr} {t t' : TO} (h : PO X e t) (k : ∀ σ H Q, t' σ H Q → t σ H Q) : PO X e t' := ⟨fun pins s σ H Q I q => h.run pins s σ H Q I (k σ H Q q)⟩
theorem PG.imp {e : Expr} {t t' : TG} (h : PG X e t) (k : ∀ v σ H Q, t' v σ H Q → t v σ H Q) : PG X e t' := ⟨fun pins s σ H v u Q I r q => h.run pins s σ H v u Q I r (k v σ H Q q)⟩
theorem PI.imp {tg e : Expr} {t t' : TI} (h : PI X tg e t) (k : ∀ σ H Q, t' σ H Q → t σ H Q) : PI X tg e t' := ⟨fun pins s σ H Q I q => h.run pins s σ H Q I (k σ H Q q)⟩
theorem PS.imp {e : Stmt} {t t' : TS} (h : PS X e t) (k : ∀ D σ H, t' D σ H → t D σ H) : PS X e t' := ⟨fun pins s σ H D I q => h.run pins s σ H D I (k D σ H q)⟩
theorem PSs.imp {e : List Stmt} {t t' : TS} (h : PSs X e t) (k : ∀ D σ H, t' D σ H → t D σ H) : PSs X e t' := ⟨fun pins s σ H D I q => h.run pins s σ H D I (k D σ H q)⟩

/-! ### what the shapes of expressions decide -/
def plainE : Expr → Bool
  | .Starred _ _ => false
  | _ => true
theorem star_cons {e : Expr} (h : plainE e = true) (es : List Expr) (env : PySem.Env) : starEach (e :: es) env = (false, eval e env) :: starEach es env := by
  cases e <;> first | rfl | cases h
theorem star_none (pos : Pos) (env : PySem.Env) : ∀ es : List Expr, es.all plainE = true → (backTo pos (starEach es env)).any (·.1) = false
  | [], _ => rfl
  | e :: es, h => by
    simp only [List.all_cons, Bool.and_eq_true] at h
    rw [star_cons h.1]
    show (false || (backTo pos (starEach es env)).any (·.1)) = false
    rw [star_none pos env es h.2]
    rfl
theorem star_len (env : PySem.Env) : ∀ es : List Expr, (starEach es env).length = es.length
  | [] => rfl
  | e :: es => by
    cases e <;> (show (starEach es env).length + 1 = es.length + 1; rw [star_len env es])
def noSlice : Expr → Bool
  | .Slice _ _ _ _ => false
  | _ => true
theorem plain_ix {b : Expr} (h : noSlice b = true) : PlainIx b := by
  cases b <;> first | exact fun _ _ => rfl | cases h
def noSetE : Expr → Bool
  | .Set _ _ _ => false
  | _ => true
theorem no_behind {op : CmpOp} {b : Expr} (h : noSetE b = true) : behindInMarks op b = false := by
  cases b <;> first | rfl | cases h
theorem no_fold {it : Expr} (h : noSetE it = true) (env : PySem.Env) : ∀ x, foldedSetIterable it env x = pure x := by
  intro x
  cases it <;> first | rfl | cases h
/-- an expression whose test is its value's -/
def plainT : Expr → Bool
  | .Name _ _ => true
  | .Call _ _ _ _ => true
  | .Subscript _ _ _ => true
  | .Constant _ _ _ => true
  | _ => false
theorem plain_test {e : Expr} (h : plainT e = true) (env : PySem.Env) : ∀ whole, isTrue e env whole = (do let v ← whole; standAt e.pos; holding [v] (truthy v)) := by
  intro w
  cases e <;> first | rfl | cases h
/-- a receiver of a method -/
def plainO : Expr → Bool
  | .Call _ [] _ _ => false
  | _ => true
theorem plain_base {o : Expr} (h : plainO o = true) (n : Str) (env : PySem.Env) : attributeBase o n env (eval o env) = eval o env := by
  cases o with
  | Call f as ks p =>
    cases as with
    | nil => cases h
    | cons a as => cases f <;> rfl
  | _ => rfl

/-! ### names, constants -/
variable {c : Ctx} {pos : Pos}
theorem s_var {i : Nat} {x : Str} (hN : X.N[i]? = some x) (hv : Vis X.env.scope x) (hd : (x == ("__debug__" : Str)) = false) (hcd : (x == ("__classdict__" : Str)) = false) : PE X (.Name x pos) (tE X.K c (.var i)) := by
  refine PE.imp (pe_var hN hv hd hcd) fun σ H Q h => ?_
  obtain ⟨hid, ρ, env, S, he, hs, h⟩ := h
  simp only [evalE] at h
  split at h
  · rename_i v q
    obtain ⟨w, h1, st, r⟩ := he.at_ i v q
    exact ⟨w, h1, h.pure hs w r (.of_st st)⟩
  · exact h.elim
def constOk : Val → Const → Bool
  | .non, .none => true
  | .bl a, .bool b => a == b
  | .int a, .int b => a == b
  | .str a, .str b => decide (strOf a = b)
  | _, _ => false
theorem s_lit {v : Val} {k : Const} {j : Nat} (h : constOk v k = true) : PE X (.Constant k j pos) (tE X.K c (.lit v)) := by
  have fin : ∀ {σ H Q} {w : V}, (∀ hid ρ, Rep X.K hid ρ H v w) → v.st = true → tE X.K c (.lit v) σ H Q → Q w H := fun {σ H Q w} r st h => by
    obtain ⟨hid, ρ, env, S, he, hs, h⟩ := h
    simp only [evalE] at h
    exact h.pure hs w (r hid ρ) (.of_st st)
  cases v <;> cases k <;> simp only [constOk] at h <;> try (cases h; done)
  · exact PE.imp pe_non fun σ H Q q => fin (fun _ _ => .of_non) rfl q
  · rename_i a b
    cases (beq_iff_eq.mp h)
    exact PE.imp pe_bl fun σ H Q q => fin (fun _ _ => .of_bl) rfl q
  · rename_i a b
    cases (beq_iff_eq.mp h)
    exact PE.imp pe_int fun σ H Q q => fin (fun _ _ => .of_int) rfl q
  · rename_i a b
    have e := of_decide_eq_true h
    subst e
    exact PE.imp pe_str fun σ H Q q => fin (fun _ _ => .of_str) rfl q
/-- a module's constant: an int, a text -/
def flatIs : Val → Value → Prop
  | .int i, u => ∃ t, u = .int i t
  | .str s, u => ∃ t, u = .str (strOf s) t
  | _, _ => False
theorem s_con {i : Nat} {x : Str} {u : Value} (hg : Gl X x) (hm : X.mg x = some u) (hu : ∀ v, c.con i = some v → flatIs v u) (hd : (x == ("__debug__" : Str)) = false) : PE X (.Name x pos) (tE X.K c (.con i)) := by
  refine ⟨fun pins s σ H Q I h => ?_⟩
  obtain ⟨hid, ρ, env, S, he, hs, h⟩ := h
  simp only [evalE] at h
  obtain ⟨v, e, h⟩ := h.of
  have q := hu v e
  cases v <;> simp only [flatIs] at q
  · rename_i k
    exact (pe_glob (v := .int k) hg hm q hd).run pins s σ H Q I (fin_same hs h .of_int trivial)
  · rename_i k
    exact (pe_glob (v := .str (strOf k)) hg hm q hd).run pins s σ H Q I (fin_same hs h .of_str trivial)

/-! ### two and three parts -/
variable {xa xb xc : Expr} {ea eb ec : E}
/-- two parts and a rule over their values -/
theorem two_parts {e : E} {r : R2} {σ : L2.St} {H : Hp} {Q : VK} {f : Val → Val → Sto → R Val} (he : ∀ env S, evalE c e env S = (evalE c ea env S).bind fun x S1 => (evalE c eb env S1).bind fun y S2 => f x y S2)
    (h : tE X.K c e σ H Q) (k : ∀ hid ρ H0 ρ' H' S x y v w, Ext ρ H0 ρ' H' → SOk X.K hid ρ' H' S → Rep X.K hid ρ' H' x v → Rep X.K hid ρ' H' y w → Out X.K hid ρ' H' (f x y S) (fun z S2 ρ2 H2 => ∀ u, Rep X.K hid ρ2 H2 z u → Fresh X.K hid ρ2 H2 S2 H' z u → Q u H2) → r v w H' Q) :
    tOp r (tE X.K c ea) (tE X.K c eb) σ H Q := by
  obtain ⟨hid, ρ, env, S, hE, hs, h⟩ := h
  rw [he] at h
  refine tE.of hE hs h fun x S1 ρ1 H1 v e1 s1 r1 f1 h1 => tE.of (hE.mono e1) s1 h1 fun y S2 ρ2 H2 w e2 s2 r2 f2 h2 => ?_
  exact k hid ρ H ρ2 H2 S2 x y v w (e1.trans e2) s2 (Rep.mono e2 x v r1) r2 (h2.mono fun z S3 ρ3 H3 e3 q u ru fu => q u ru (fu.anti (e1.trans e2)))
def opOf : BOp → Operator
  | .add => .Add
  | .sub => .Sub
  | .mul => .Mult
  | .fdiv => .FloorDiv
  | .mod => .Mod
  | .pow => .Pow
theorem op_all (op : BOp) : OpR X (binaryOp (opOf op)) (rOf X.K fun S => QE.bin S op) := by
  cases op
  · exact op_addQ
  · exact op_subQ
  · exact op_mulQ
  · exact op_fdivQ
  · exact op_modQ
  · exact op_powQ
theorem s_bin {op : BOp} (ha : PE X xa (tE X.K c ea)) (hb : PE X xb (tE X.K c eb)) : PE X (.BinOp xa (opOf op) xb pos) (tE X.K c (.bin op ea eb)) := by
  refine PE.imp (pe_op (op_all op) ha hb) fun σ H Q h => ?_
  exact two_parts (f := fun x y S => R.of (QE.bin S op x y) S) (fun env S => by simp only [evalE]) h fun hid ρ H0 ρ' H' S x y v w _ s r1 r2 o => ⟨hid, ρ', S, x, y, s, r1, r2, o⟩
theorem s_neg (ha : PE X xa (tE X.K c ea)) : PE X (.UnaryOp .USub xa pos) (tE X.K c (.neg ea)) := by
  refine PE.imp (pe_un un_neg ha) fun σ H Q h => ?_
  obtain ⟨hid, ρ, env, S, hE, hs, h⟩ := h
  simp only [evalE] at h
  refine tE.of hE hs h fun x S1 ρ1 H1 v e1 s1 r1 f1 h1 => ?_
  obtain ⟨i, S2, q, hk⟩ := h1.bind
  obtain ⟨hx, hS⟩ := asInt_ok q
  subst hx hS
  cases r1.int_
  exact ⟨i, rfl, (hk ρ1 H1 (Ext.refl _ _)).pure s1 _ .of_int trivial⟩
def cmpOf : COp → CmpOp
  | .eq => .Eq
  | .ne => .NotEq
  | .lt => .Lt
  | .le => .LtE
  | .gt => .Gt
  | .ge => .GtE
  | .in_ => .In
  | .nin => .NotIn
  | .is_ => .Is
  | .isn => .IsNot
theorem cmp_all (hu : X.A.units + 65 < cLine) (op : COp) : OpR X (compareOp (cmpOf op)) (rCo X.K fun S => QE.cmp S op) := by
  cases op
  · exact op_eqQ (by omega)
  · exact op_neQ (by omega)
  · exact op_ltQ (by omega)
  · exact op_leQ
  · exact op_gtQ
  · exact op_geQ
  · exact op_inQ hu
  · exact op_ninQ hu
  · exact op_isQ
  · exact op_isnQ
theorem s_cmp {op : COp} (hu : X.A.units + 65 < cLine) (ha : PE X xa (tE X.K c ea)) (hb : PE X xb (tE X.K c eb)) (hm : noSetE xb = true) : PE X (.Compare xa [cmpOf op] [xb] pos) (tE X.K c (.cmp op ea eb)) := by
  refine PE.imp (pe_cmpR (cmp_all hu op) ha hb (no_behind hm)) fun σ H Q h => ?_
  refine two_parts (f := fun x y S => (R.of (QE.cmp S op x y) S).bind fun r S3 => .ok (.bl r) S3) (fun env S => by simp only [evalE]) h fun hid ρ H0 ρ' H' S x y v w _ s r1 r2 o => ?_
  obtain ⟨b, S3, q, hk⟩ := o.bind
  cases hc : QE.cmp S op x y with
  | none => rw [hc] at q; cases q
  | some b' =>
    rw [hc] at q
    cases q
    exact ⟨hid, ρ', S, x, y, b, s, r1, r2, hc, (hk ρ' H' (Ext.refl _ _)).pure s _ .of_bl trivial⟩
theorem t_cmp {op : COp} (hu : X.A.units + 65 < cLine) (ha : PE X xa (tE X.K c ea)) (hb : PE X xb (tE X.K c eb)) (hm : noSetE xb = true) : PT X (.Compare xa [cmpOf op] [xb] pos) (tT X.K c (.cmp op ea eb)) := by
  refine PT.imp (pt_cmpR (cmp_all hu op) ha hb (no_behind hm)) fun σ H Q h => ?_
  obtain ⟨hid, ρ, env, S, hE, hs, h⟩ := h
  have h' : tE X.K c (.cmp op ea eb) σ H (fun x H' => ∃ k, x = .bl k ∧ Q k H') := by
    refine ⟨hid, ρ, env, S, hE, hs, h.mono fun z S2 ρ2 H2 e q u ru fu => ?_⟩
    obtain ⟨b, ez, q⟩ := q
    subst ez
    exact ⟨b, ru.bl_, q⟩
  refine two_parts (f := fun x y S => (R.of (QE.cmp S op x y) S).bind fun r S3 => .ok (.bl r) S3) (fun env S => by simp only [evalE]) h' fun hid ρ H0 ρ' H' S x y v w _ s r1 r2 o => ?_
  obtain ⟨b, S3, q, hk⟩ := o.bind
  cases hc : QE.cmp S op x y with
  | none => rw [hc] at q; cases q
  | some b' =>
    rw [hc] at q
    cases q
    exact ⟨hid, ρ', S, x, y, b, s, r1, r2, hc, (hk ρ' H' (Ext.refl _ _)).pure s _ .of_bl trivial⟩
theorem chain_core {o1 o2 : COp} {σ : L2.St} {H : Hp} {Q : VK} (h : tE X.K c (.chain o1 o2 ea eb ec) σ H Q) :
    tChain (rCo X.K fun S => QE.cmp S o1) (rCo X.K fun S => QE.cmp S o2) (tE X.K c ea) (tE X.K c eb) (tE X.K c ec) σ H Q := by
  obtain ⟨hid, ρ, env, S, hE, hs, h⟩ := h
  simp only [evalE] at h
  refine tE.of hE hs h fun x S1 ρ1 H1 v e1 s1 r1 f1 h1 => tE.of (hE.mono e1) s1 h1 fun y S2 ρ2 H2 w e2 s2 r2 f2 h2 => ?_
  obtain ⟨b, S3, q, hk⟩ := h2.bind
  cases hc : QE.cmp S2 o1 x y with
  | none => rw [hc] at q; cases q
  | some b' =>
    rw [hc] at q
    cases q
    have h3 := hk ρ2 H2 (Ext.refl _ _)
    refine ⟨hid, ρ2, S2, x, y, b, s2, Rep.mono e2 x v r1, r2, hc, b, rfl, ?_⟩
    cases b with
    | false =>
      simp only [Bool.false_eq_true, if_false] at h3 ⊢
      exact h3.pure s2 _ .of_bl trivial
    | true =>
      simp only [if_true] at h3 ⊢
      refine tE.of ((hE.mono e1).mono e2) s2 h3 fun z S4 ρ4 H4 u e4 s4 r4 f4 h4 => ?_
      obtain ⟨b2, S5, q2, hk2⟩ := h4.bind
      cases hc2 : QE.cmp S4 o2 y z with
      | none => rw [hc2] at q2; cases q2
      | some b3 =>
        rw [hc2] at q2
        cases q2
        exact ⟨hid, ρ4, S4, y, z, b2, s4, Rep.mono e4 y w r2, r4, hc2, (hk2 ρ4 H4 (Ext.refl _ _)).pure s4 _ .of_bl trivial⟩
theorem no_last {o1 o2 : CmpOp} {b d : Expr} (h : noSetE d = true) : lastMarks [o1, o2] [b, d] = false := by
  show behindInMarks o2 d = false
  exact no_behind h
theorem s_chain {o1 o2 : COp} (hu : X.A.units + 65 < cLine) (ha : PE X xa (tE X.K c ea)) (hb : PE X xb (tE X.K c eb)) (hc : PE X xc (tE X.K c ec)) (hm : noSetE xc = true) : PE X (.Compare xa [cmpOf o1, cmpOf o2] [xb, xc] pos) (tE X.K c (.chain o1 o2 ea eb ec)) :=
  PE.imp (pe_chain (cmp_all hu o1) (cmp_all hu o2) ha hb hc (no_last hm)) fun σ H Q h => chain_core h
theorem tE_of_tT {e : E} {σ : L2.St} {H : Hp} {Q : Bool → Hp → Prop} (h : tT X.K c e σ H Q) : tE X.K c e σ H fun x H' => ∃ k, x = .bl k ∧ Q k H' := by
  obtain ⟨hid, ρ, env, S, hE, hs, h⟩ := h
  refine ⟨hid, ρ, env, S, hE, hs, h.mono fun z S2 ρ2 H2 e q u ru fu => ?_⟩
  obtain ⟨b, ez, q⟩ := q
  subst ez
  exact ⟨b, ru.bl_, q⟩
theorem t_chain {o1 o2 : COp} (hu : X.A.units + 65 < cLine) (ha : PE X xa (tE X.K c ea)) (hb : PE X xb (tE X.K c eb)) (hc : PE X xc (tE X.K c ec)) (hm : noSetE xc = true) : PT X (.Compare xa [cmpOf o1, cmpOf o2] [xb, xc] pos) (tT X.K c (.chain o1 o2 ea eb ec)) :=
  PT.imp (pt_chain (cmp_all hu o1) (cmp_all hu o2) ha hb hc (no_last hm)) fun σ H Q h => chain_core (tE_of_tT h)
/-- a test by its value -/
theorem t_val {e : E} (h : PE X xa (tE X.K c e)) (hp : plainT xa = true) : PT X xa (tT X.K c e) :=
  PT.imp (pt_val h (plain_test hp X.env)) fun σ H Q q => tE_of_tT q

/-! ### not, if -/
theorem s_not (ha : PE X xa (tE X.K c ea)) : PE X (.UnaryOp .Not xa pos) (tE X.K c (.not ea)) := by
  refine PE.imp (pe_not ha) fun σ H Q h => ?_
  obtain ⟨hid, ρ, env, S, hE, hs, h⟩ := h
  simp only [evalE] at h
  refine tE.of hE hs h fun x S1 ρ1 H1 v e1 s1 r1 f1 h1 => ?_
  obtain ⟨b, S2, q, hk⟩ := h1.bind
  obtain ⟨hx, hS⟩ := asBl_ok q
  subst hx hS
  exact ⟨b, r1.bl_, (hk ρ1 H1 (Ext.refl _ _)).pure s1 _ .of_bl trivial⟩
theorem t_not (ha : PT X xa (tT X.K c ea)) : PT X (.UnaryOp .Not xa pos) (tT X.K c (.not ea)) := by
  refine PT.imp (pt_not ha) fun σ H Q h => ?_
  obtain ⟨hid, ρ, env, S, hE, hs, h⟩ := h
  simp only [evalE] at h
  refine tT.of hE hs h fun b S1 ρ1 H1 e1 s1 h1 => ?_
  obtain ⟨b', eb, q⟩ := h1.pure s1
  cases eb
  exact q
theorem s_ite (hc : PT X xc (tT X.K c ec)) (ha : PE X xa (tE X.K c ea)) (hb : PE X xb (tE X.K c eb)) : PE X (.IfExp xc xa xb pos) (tE X.K c (.ite ec ea eb)) := by
  refine PE.imp (pe_ifExp hc ha hb) fun σ H Q h => ?_
  obtain ⟨hid, ρ, env, S, hE, hs, h⟩ := h
  simp only [evalE] at h
  refine tT.of hE hs h fun b S1 ρ1 H1 e1 s1 h1 => ?_
  cases b with
  | true => exact ⟨hid, ρ1, env, S1, hE.mono e1, s1, h1.mono fun z S2 ρ2 H2 e q u ru fu => q u ru (fu.anti e1)⟩
  | false => exact ⟨hid, ρ1, env, S1, hE.mono e1, s1, h1.mono fun z S2 ρ2 H2 e q u ru fu => q u ru (fu.anti e1)⟩

/-! ### argument lists -/
theorem a_nil : PA X [] (tEs X.K c []) := by
  refine PA.imp pa_nil fun σ H Q h => ?_
  obtain ⟨hid, ρ, env, S, hE, hs, h⟩ := h
  simp only [evalEs] at h
  exact h.pure hs [] .nil
theorem a_cons {xs : List Expr} {es : List E} (ha : PE X xa (tE X.K c ea)) (hr : PA X xs (tEs X.K c es)) (hp : plainE xa = true) : PA X (xa :: xs) (tEs X.K c (ea :: es)) := by
  refine PA.imp (pa_cons ha hr (star_cons hp xs X.env)) fun σ H Q h => ?_
  obtain ⟨hid, ρ, env, S, hE, hs, h⟩ := h
  simp only [evalEs] at h
  refine tE.of hE hs h fun x S1 ρ1 H1 v e1 s1 r1 f1 h1 => tEs.of (hE.mono e1) s1 h1 fun ys S2 ρ2 H2 ws e2 s2 r2 h2 => ?_
  exact h2.pure s2 _ (RepL.cons ⟨st_settle x, (Rep.mono e2 x v r1).settle⟩ r2)
theorem s_tup {k : Nat} {xs : List Expr} {es : List E} (h : PA X xs (tEs X.K c es)) : PE X (.Tuple xs k pos) (tE X.K c (.tup es)) := by
  refine PE.imp (pe_tup h) fun σ H Q h => ?_
  obtain ⟨hid, ρ, env, S, hE, hs, h⟩ := h
  simp only [evalE] at h
  refine tEs.of hE hs h fun xs S1 ρ1 H1 vs e1 s1 r1 h1 => ?_
  split at h1
  · rename_i hz
    refine ⟨by rw [r1.length, ← lim_eq]; exact hz, fun p hp => ?_⟩
    exact h1 ρ1 _ (Ext.new hp) (s1.new hp) _ (rep_newT hp r1) trivial
  · exact h1.elim
theorem s_list {xs : List Expr} {es : List E} (h : PA X xs (tEs X.K c es)) : PE X (.List xs pos) (tE X.K c (.list es)) := by
  refine PE.imp (pe_lst h) fun σ H Q h => ?_
  obtain ⟨hid, ρ, env, S, hE, hs, h⟩ := h
  simp only [evalE] at h
  refine tEs.of hE hs h fun xs S1 ρ1 H1 vs e1 s1 r1 h1 => ?_
  split at h1
  · rename_i hz
    refine ⟨by rw [r1.length, ← lim_eq]; exact hz, fun p hp => ?_⟩
    exact h1 ρ1 _ (Ext.new hp) (s1.new hp) _ (rep_newL s1 hp r1) (fresh_newL s1 hp (e1.free hp) r1)
  · exact h1.elim
theorem s_dnew {t : Bool} : PE X (.Dict [] [] pos) (tE X.K c (.dnew t)) := by
  have nt : ∀ {hid ρ : List Addr} {H : Hp} {S : Sto} {p : Addr}, SOk X.K hid ρ H S → H p = none → Rep X.K hid ρ (upd H p (.dT [])) (.dic true true []) (.ref p) := fun {hid ρ H S p} s hp => by
    simp only [Rep]
    exact ⟨p, [], rfl, upd_same, s.new1 hp, s.new2 hp, by simp only [RepT]⟩
  have nf : ∀ {hid ρ : List Addr} {H : Hp} {S : Sto} {p : Addr}, SOk X.K hid ρ H S → H p = none → Rep X.K hid ρ (upd H p (.dK [])) (.dic true false []) (.ref p) := fun {hid ρ H S p} s hp => by
    simp only [Rep]
    exact ⟨p, [], rfl, upd_same, s.new1 hp, s.new2 hp, by simp only [RepK]⟩
  cases t with
  | true =>
    refine PE.imp pe_dnewT fun σ H Q h => ?_
    obtain ⟨hid, ρ, env, S, hE, hs, h⟩ := h
    simp only [evalE] at h
    exact fun p hp => h ρ _ (Ext.new hp) (hs.new hp) _ (nt hs hp) ⟨p, rfl, hp, hs.newC hp ⟨[], upd_same, by simp only [RepT]⟩⟩
  | false =>
    refine PE.imp pe_dnewK fun σ H Q h => ?_
    obtain ⟨hid, ρ, env, S, hE, hs, h⟩ := h
    simp only [evalE] at h
    exact fun p hp => h ρ _ (Ext.new hp) (hs.new hp) _ (nf hs hp) ⟨p, rfl, hp, hs.newC hp ⟨[], upd_same, by simp only [RepK]⟩⟩

/-! ### items, slices -/
theorem s_idx (hu : X.A.units + 65 < cLine) (ha : PE X xa (tE X.K c ea)) (hb : PE X xb (tE X.K c eb)) (hp : noSlice xb = true) : PE X (.Subscript xa xb pos) (tE X.K c (.idx ea eb)) := by
  refine PE.imp (pe_ix (ix_Q (by omega)) ha hb (plain_ix hp)) fun σ H Q h => ?_
  exact two_parts (f := fun x y S => R.of (item S x y) S) (fun env S => by simp only [evalE]) h fun hid ρ H0 ρ' H' S x y v w _ s r1 r2 o => ⟨hid, ρ', S, x, y, s, r1, r2, o⟩
def tO (K : PySem.W.Frag) (c : Ctx) (o : Option E) : TO := fun σ H Q => ∃ hid ρ env S, ERep K hid ρ H env σ ∧ SOk K hid ρ H S ∧ Out K hid ρ H (evalO c o env S) fun x _ _ H' => Q x H'
theorem o_none : PO X none (tO X.K c none) := by
  refine PO.imp po_none fun σ H Q h => ?_
  obtain ⟨hid, ρ, env, S, hE, hs, h⟩ := h
  simp only [evalO] at h
  exact h.pure hs
theorem o_some (ha : PE X xa (tE X.K c ea)) : PO X (some xa) (tO X.K c (some ea)) := by
  refine PO.imp (po_some ha) fun σ H Q h => ?_
  obtain ⟨hid, ρ, env, S, hE, hs, h⟩ := h
  simp only [evalO] at h
  refine tE.of hE hs h fun x S1 ρ1 H1 v e1 s1 r1 f1 h1 => ?_
  obtain ⟨i, S2, q, hk⟩ := h1.bind
  obtain ⟨hx, hS⟩ := asInt_ok q
  subst hx hS
  exact ⟨i, r1.int_, (hk ρ1 H1 (Ext.refl _ _)).pure s1⟩
theorem tO.of {K : PySem.W.Frag} {o : Option E} {hid ρ : List Addr} {H : Hp} {env : Env} {S : Sto} {σ : L2.St} {β : Type} {f : Option Int → Sto → R β} {G : β → Sto → List Addr → Hp → Prop} {Q : Option Int → Hp → Prop}
    (he : ERep K hid ρ H env σ) (hs : SOk K hid ρ H S) (h : Out K hid ρ H ((evalO c o env S).bind f) G)
    (k : ∀ x S1 ρ1 H1, Ext ρ H ρ1 H1 → SOk K hid ρ1 H1 S1 → Out K hid ρ1 H1 (f x S1) G → Q x H1) : tO K c o σ H Q := by
  obtain ⟨x, S1, q, hk⟩ := h.bind
  refine ⟨hid, ρ, env, S, he, hs, ?_⟩
  rw [q]
  exact fun ρ1 H1 e1 s1 => k x S1 ρ1 H1 e1 s1 (hk ρ1 H1 e1)
theorem s_slice {lo hi : Option Expr} {el eh : Option E} {p2 : Pos} (ha : PE X xa (tE X.K c ea)) (hl : PO X lo (tO X.K c el)) (hh : PO X hi (tO X.K c eh)) : PE X (.Subscript xa (.Slice lo hi none p2) pos) (tE X.K c (.slice ea el eh)) := by
  refine PE.imp (pe_slice sl_Q ha hl hh) fun σ H Q h => ?_
  obtain ⟨hid, ρ, env, S, hE, hs, h⟩ := h
  simp only [evalE] at h
  refine tE.of hE hs h fun x S1 ρ1 H1 v e1 s1 r1 f1 h1 => tO.of (hE.mono e1) s1 h1 fun l S2 ρ2 H2 e2 s2 h2 => tO.of ((hE.mono e1).mono e2) s2 h2 fun u S3 ρ3 H3 e3 s3 h3 => ?_
  exact ⟨hid, ρ3, S3, x, s3, Rep.mono e3 x v (Rep.mono e2 x v r1), h3.mono fun z S4 ρ4 H4 e q w rw' fw => q w rw' (fw.anti ((e1.trans e2).trans e3))⟩
end
end QE

set_option Elab.async false
set_option linter.all false
set_option maxRecDepth 10000
set_option maxHeartbeats 1000000
/-! Expressions: and, or, calls, built-ins, methods, cells. -/
namespace QE
open PySem PySem.Spec PyProof.Rows L2
theorem R.bind_assoc {α β γ : Type} (r : R α) (f : α → Sto → R β) (g : β → Sto → R γ) : (r.bind f).bind g = r.bind fun a S => (f a S).bind g := by cases r <;> rfl
section
variable {X : Cx} {c : Ctx} {pos : Pos} {xa xb : Expr} {ea eb : E} {xs : List Expr} {es : List E}

/-! ### and, or -/
theorem s_and1 (ha : PE X xa (tE X.K c ea)) : PE X (.BoolOp .And [xa] pos) (tE X.K c (.and [ea])) := by
  refine PE.imp (pe_one ha) fun σ H Q h => ?_
  obtain ⟨hid, ρ, env, S, hE, hs, h⟩ := h
  simp only [evalE, evalAnd, R.bind_assoc] at h
  refine tE.of hE hs h fun x S1 ρ1 H1 v e1 s1 r1 f1 h1 => ?_
  obtain ⟨b, S2, q, hk⟩ := h1.bind
  obtain ⟨hx, hS⟩ := asBl_ok q
  subst hx hS
  cases r1.bl_
  have h2 := hk ρ1 H1 (Ext.refl _ _)
  cases b with
  | true => exact h2.pure s1 _ .of_bl trivial
  | false => exact h2.pure s1 _ .of_bl trivial
theorem s_and (ha : PE X xa (tE X.K c ea)) (hb : PE X (.BoolOp .And (xb :: xs) pos) (tE X.K c (.and (eb :: es)))) : PE X (.BoolOp .And (xa :: xb :: xs) pos) (tE X.K c (.and (ea :: eb :: es))) := by
  refine PE.imp (pe_and ha hb) fun σ H Q h => ?_
  obtain ⟨hid, ρ, env, S, hE, hs, h⟩ := h
  rw [evalE, evalAnd] at h
  simp only [R.bind_assoc] at h
  refine tE.of hE hs h fun x S1 ρ1 H1 v e1 s1 r1 f1 h1 => ?_
  obtain ⟨b, S2, q, hk⟩ := h1.bind
  obtain ⟨hx, hS⟩ := asBl_ok q
  subst hx hS
  have h2 := hk ρ1 H1 (Ext.refl _ _)
  refine ⟨b, r1.bl_, ?_⟩
  cases b with
  | true =>
    refine ⟨hid, ρ1, env, _, hE.mono e1, s1, ?_⟩
    rw [evalE]
    exact h2.mono fun z S2 ρ2 H2 e q u ru fu => q u ru (fu.anti e1)
  | false => exact h2.pure s1 _ .of_bl trivial
theorem s_or1 (ha : PE X xa (tE X.K c ea)) : PE X (.BoolOp .Or [xa] pos) (tE X.K c (.or [ea])) := by
  refine PE.imp (pe_one ha) fun σ H Q h => ?_
  obtain ⟨hid, ρ, env, S, hE, hs, h⟩ := h
  simp only [evalE, evalOr, R.bind_assoc] at h
  refine tE.of hE hs h fun x S1 ρ1 H1 v e1 s1 r1 f1 h1 => ?_
  obtain ⟨b, S2, q, hk⟩ := h1.bind
  obtain ⟨hx, hS⟩ := asBl_ok q
  subst hx hS
  cases r1.bl_
  have h2 := hk ρ1 H1 (Ext.refl _ _)
  cases b with
  | true => exact h2.pure s1 _ .of_bl trivial
  | false => exact h2.pure s1 _ .of_bl trivial
theorem s_or (ha : PE X xa (tE X.K c ea)) (hb : PE X (.BoolOp .Or (xb :: xs) pos) (tE X.K c (.or (eb :: es)))) : PE X (.BoolOp .Or (xa :: xb :: xs) pos) (tE X.K c (.or (ea :: eb :: es))) := by
  refine PE.imp (pe_or ha hb) fun σ H Q h => ?_
  obtain ⟨hid, ρ, env, S, hE, hs, h⟩ := h
  rw [evalE, evalOr] at h
  simp only [R.bind_assoc] at h
  refine tE.of hE hs h fun x S1 ρ1 H1 v e1 s1 r1 f1 h1 => ?_
  obtain ⟨b, S2, q, hk⟩ := h1.bind
  obtain ⟨hx, hS⟩ := asBl_ok q
  subst hx hS
  have h2 := hk ρ1 H1 (Ext.refl _ _)
  refine ⟨b, r1.bl_, ?_⟩
  cases b with
  | false =>
    refine ⟨hid, ρ1, env, _, hE.mono e1, s1, ?_⟩
    rw [evalE]
    exact h2.mono fun z S2 ρ2 H2 e q u ru fu => q u ru (fu.anti e1)
  | true => exact h2.pure s1 _ .of_bl trivial
/-- reading a test, as it stands in a test's own form -/
theorem tT_and (f : ∀ env S, evalE c eb env S = (evalE c ea env S).bind fun x S1 => (asBl x S1).bind fun b S2 => .ok (.bl b) S2) {σ : L2.St} {H : Hp} {Q : Bool → Hp → Prop} (h : tT X.K c eb σ H Q) : tT X.K c ea σ H Q := by
  obtain ⟨hid, ρ, env, S, hE, hs, h⟩ := h
  rw [f] at h
  refine tT.of hE hs h fun b S1 ρ1 H1 e1 s1 h1 => ?_
  obtain ⟨b', eb', q⟩ := h1.pure s1
  cases eb'
  exact q
theorem w_and1 (ha : PT X xa (tT X.K c ea)) : PW X (.BoolOp .And [xa] pos) (tT X.K c (.and [ea])) := by
  refine PW.imp (pw_and1 ha) fun σ H Q h => tT_and (fun env S => ?_) h
  simp only [evalE, evalAnd, R.bind_assoc]
  congr
  funext x S1
  congr
  funext b S2
  cases b <;> rfl
theorem w_or1 (ha : PT X xa (tT X.K c ea)) : PW X (.BoolOp .Or [xa] pos) (tT X.K c (.or [ea])) := by
  refine PW.imp (pw_or1 ha) fun σ H Q h => tT_and (fun env S => ?_) h
  simp only [evalE, evalOr, R.bind_assoc]
  congr
  funext x S1
  congr
  funext b S2
  cases b <;> rfl
theorem w_and (ha : PT X xa (tT X.K c ea)) (hb : PW X (.BoolOp .And (xb :: xs) pos) (tT X.K c (.and (eb :: es)))) : PW X (.BoolOp .And (xa :: xb :: xs) pos) (tT X.K c (.and (ea :: eb :: es))) := by
  refine PW.imp (pw_and ha hb) fun σ H Q h => ?_
  obtain ⟨hid, ρ, env, S, hE, hs, h⟩ := h
  rw [evalE, evalAnd] at h
  simp only [R.bind_assoc] at h
  refine tT.of hE hs h fun b S1 ρ1 H1 e1 s1 h2 => ?_
  cases b with
  | true =>
    refine ⟨hid, ρ1, env, _, hE.mono e1, s1, ?_⟩
    rw [evalE]
    exact h2
  | false =>
    obtain ⟨b', eb', q⟩ := h2.pure s1
    cases eb'
    exact q
theorem w_or (ha : PT X xa (tT X.K c ea)) (hb : PW X (.BoolOp .Or (xb :: xs) pos) (tT X.K c (.or (eb :: es)))) : PW X (.BoolOp .Or (xa :: xb :: xs) pos) (tT X.K c (.or (ea :: eb :: es))) := by
  refine PW.imp (pw_or ha hb) fun σ H Q h => ?_
  obtain ⟨hid, ρ, env, S, hE, hs, h⟩ := h
  rw [evalE, evalOr] at h
  simp only [R.bind_assoc] at h
  refine tT.of hE hs h fun b S1 ρ1 H1 e1 s1 h2 => ?_
  cases b with
  | false =>
    refine ⟨hid, ρ1, env, _, hE.mono e1, s1, ?_⟩
    rw [evalE]
    exact h2
  | true =>
    obtain ⟨b', eb', q⟩ := h2.pure s1
    cases eb'
    exact q

/-! ### calls -/
/-- what the def f promises -/
def spF (K : PySem.W.Frag) (call : Nat → List Val → Sto → R Val) (f : Nat) : Sp := fun vs H Q _ => ∃ hid ρ S xs, SOk K hid ρ H S ∧ RepL K hid ρ H xs vs ∧ Out K hid ρ H (call f xs S) (Gv K hid H Q)
theorem call_read {f : Nat} {σ : L2.St} {H : Hp} {Q : VK} (h : tE X.K c (.call f es) σ H Q) : tCall (spF X.K c.call f) [] E0 (tEs X.K c es) σ H Q := by
  obtain ⟨hid, ρ, env, S, hE, hs, h⟩ := h
  simp only [evalE] at h
  refine tEs.of hE hs h fun ys S1 ρ1 H1 vs e1 s1 r1 h1 => ⟨hid, ρ1, S1, ys, s1, ?_, h1.mono fun z S2 ρ2 H2 e q u ru fu => q u ru (fu.anti e1)⟩
  rw [List.append_nil]
  exact r1
variable {x : Str} {p : Pos} {fa : Addr} {fd : FuncData} {ps : List Str} {k : Nat}
theorem s_call {f : Nat} (F : FnOk X.prog X.w X.K X.mg X.base CX0 k fa fd ps (spF X.K c.call f)) (hr : Room k X.A) (hg : Gl X x) (hm : X.mg x = some (.ref fa)) (hk : PySem.W.keepIn X.K (.ref fa) = true) (hb : Binds X.K fd ps [])
    (ha : PA X (xa :: xs) (tEs X.K c es)) (hdb : (x == ("__debug__" : Str)) = false) (hp : (xa :: xs).all plainE = true) : PE X (.Call (.Name x p) (xa :: xs) [] pos) (tE X.K c (.call f es)) := by
  have hp' := hp
  simp only [List.all_cons, Bool.and_eq_true] at hp'
  exact PE.imp (pe_call F hr hg hm hk hb .nil pass0 ha hdb (star_cons hp'.1 _ _) (star_none _ _ _ hp'.2)) fun σ H Q h => call_read h
theorem s_call0 {f : Nat} (F : FnOk X.prog X.w X.K X.mg X.base CX0 k fa fd ps (spF X.K c.call f)) (hr : Room k X.A) (hg : Gl X x) (hm : X.mg x = some (.ref fa)) (hk : PySem.W.keepIn X.K (.ref fa) = true) (hb : Binds X.K fd ps [])
    (hdb : (x == ("__debug__" : Str)) = false) : PE X (.Call (.Name x p) [] [] pos) (tE X.K c (.call f [])) := by
  refine PE.imp (pe_call0 F hr hg hm hk hb .nil pass0 hdb) fun σ H Q h => ?_
  obtain ⟨hid, ρ, env, S, hE, hs, h⟩ := h
  simp only [evalE, evalEs, R.bind] at h
  exact ⟨hid, ρ, S, [], hs, .nil, h⟩

/-! ### built-ins -/
def biName : Bi → String
  | .len => "len"
  | .all => "all"
  | .any => "any"
  | .list => "list"
  | .tuple => "tuple"
  | .sum => "sum"
  | .min2 => "min"
  | .max2 => "max"
  | .abs => "abs"
  | .int => "int"
  | .str => "str"
def biTy : Bi → Bool
  | .list => true
  | .tuple => true
  | .int => true
  | .str => true
  | _ => false
theorem bi_boot : ∀ b : Bi, bootBuiltins (PySem.Str.ofString (biName b)) = some (if biTy b then .type (biName b) else .builtin (biName b)) := by
  intro b; cases b <;> decide +kernel
theorem ty_boot : ∀ t : Ty, bootBuiltins (PySem.Str.ofString (tyStr t)) = some (.type (tyStr t)) := by
  intro b; cases b <;> decide +kernel
theorem bi_call (hc : X.calm = true) (b : Bi) (hb : biTy b = false) : CallR X (.builtin (biName b)) (rBi X.K fun S xs => callBi S b xs) := by
  cases b
  · exact cr_len
  · exact cr_allQ hc
  · exact cr_anyQ hc
  · cases hb
  · cases hb
  · exact cr_sumQ hc
  · exact cr_min2Q hc
  · exact cr_max2Q hc
  · exact cr_absQ
  · cases hb
  · cases hb
theorem bi_type (b : Bi) (hb : biTy b = true) : CallR X (.type (biName b)) (rBi X.K fun S xs => callBi S b xs) := by
  cases b
  · cases hb
  · cases hb
  · cases hb
  · exact cr_listQ
  · exact cr_tupleQ
  · cases hb
  · cases hb
  · cases hb
  · cases hb
  · exact cr_intQ
  · exact cr_strQ
theorem s_bi {b : Bi} (hc : X.calm = true) (ex : x = PySem.Str.ofString (biName b)) (hg : Gl X x) (hm : X.mg x = none) (ha : PA X (xa :: xs) (tEs X.K c es)) (hp : (xa :: xs).all plainE = true) (hn : x ≠ "__name__") (hdb : (x == ("__debug__" : Str)) = false) :
    PE X (.Call (.Name x p) (xa :: xs) [] pos) (tE X.K c (.bi b es)) := by
  have hp' := hp
  simp only [List.all_cons, Bool.and_eq_true] at hp'
  have bb := bi_boot b
  rw [← ex] at bb
  have rd : ∀ σ H Q, tE X.K c (.bi b es) σ H Q → tCB (rBi X.K fun S xs => callBi S b xs) (tEs X.K c es) σ H Q := fun σ H Q h => by
    obtain ⟨hid, ρ, env, S, hE, hs, h⟩ := h
    simp only [evalE] at h
    exact tEs.of hE hs h fun ys S1 ρ1 H1 vs e1 s1 r1 h1 => ⟨hid, ρ1, S1, ys, s1, r1, h1.mono fun z S2 ρ2 H2 e q u ru fu => q u ru (fu.anti e1)⟩
  cases ht : biTy b with
  | false =>
    rw [ht] at bb
    exact PE.imp (pe_callB (bi_call hc b ht) hg hm bb ha hn hdb (star_cons hp'.1 _ _) (star_none _ _ _ hp'.2)) rd
  | true =>
    rw [ht] at bb
    exact PE.imp (pe_callTy (bi_type b ht) hg hm bb ha hn hdb (star_cons hp'.1 _ _) (star_none _ _ _ hp'.2)) rd
theorem s_isi {t : Ty} {y : Str} {p2 : Pos} (ex : x = PySem.Str.ofString "isinstance") (ey : y = PySem.Str.ofString (tyStr t)) (hg : Gl X x) (hm : X.mg x = none) (hg2 : Gl X y) (hm2 : X.mg y = none) (ha : PE X xa (tE X.K c ea)) (hp : plainE xa = true)
    (hn : x ≠ "__name__") (hdb : (x == ("__debug__" : Str)) = false) (hn2 : y ≠ "__name__") (hdb2 : (y == ("__debug__" : Str)) = false) :
    PE X (.Call (.Name x p) [xa, .Name y p2] [] pos) (tE X.K c (.isi t ea)) := by
  have b1 : bootBuiltins x = some (.builtin "isinstance") := by rw [ex]; decide +kernel
  have b2 := ty_boot t
  rw [← ey] at b2
  refine PE.imp (pe_callB (cr_isQ (t := t)) hg hm b1 (pa_cons ha (pa_cons (pe_bltn hg2 hm2 b2 (v := .ty (tyStr t)) rfl hn2 hdb2) pa_nil (star_cons rfl _ _)) (star_cons hp _ _)) hn hdb (star_cons hp _ _) (star_none _ _ _ rfl)) fun σ H Q h => ?_
  obtain ⟨hid, ρ, env, S, hE, hs, h⟩ := h
  simp only [evalE] at h
  refine tE.of hE hs h fun x S1 ρ1 H1 v e1 s1 r1 f1 h1 => ?_
  obtain ⟨b, S2, q, hk⟩ := h1.bind
  cases hc : isTy S1 t x with
  | none => rw [hc] at q; cases q
  | some b' =>
    rw [hc] at q
    cases q
    exact ⟨hid, ρ1, S1, x, v, b, rfl, s1, r1, hc, (hk ρ1 H1 (Ext.refl _ _)).pure s1 _ .of_bl trivial⟩

/-! ### methods -/
theorem is_list {K : PySem.W.Frag} {hid ρ : List Addr} {H : Hp} {S : Sto} {y : Val} {v : V} {l : List Val} (so : SOk K hid ρ H S) (r : Rep K hid ρ H y v) (e : asList S y = some l) : tyV K "list" v H := by
  obtain ⟨a, vs, ev, q, _⟩ := asList_rep so e r
  subst ev
  exact .inl ⟨rfl, vs, .inl q⟩
def meName : Me → String
  | .count => "count"
  | .index => "index"
theorem few_one {cpos : Pos} {e : Expr} {env : PySem.Env} (hp : plainE e = true) : ((backTo cpos (starEach [e] env)).all (fun x => !x.1) && (backToKw cpos (keywordEach [] env)).all (fun x => x.1.isSome)
      && decide ([e].length + ([] : List Keyword).length + (if ([] : List Keyword).isEmpty then 0 else 1) < 30)) = true := by
  rw [star_cons hp]
  rfl
theorem meth_read {K : PySem.W.Frag} {ρb : List Addr} {e : E} {eo ea : E} {r : V → List V → Hp → VK → Prop} {f : Val → Val → Sto → R Val} {σ : L2.St} {H : Hp} {Q : VK}
    (he : ∀ env S, evalE c e env S = (evalE c eo env S).bind fun x S1 => (R.of (asList S1 x) S1).bind fun _ S1 => (evalE c ea env S1).bind fun v S2 => f x v.settle S2)
    (k : ∀ hid ρ H S x y v w Q, SOk K hid ρ H S → Rep K hid ρ H x v → y.st = true → Rep K hid ρ H y w → Out K hid ρ H (f x y S) (Gv K hid H Q) → r v [w] H Q)
    (h : tE K c e σ H Q) : tBM K "list" r (tE K c eo) (tCons (tE K c ea) tNil) σ H Q := by
  obtain ⟨hid, ρ, env, S, hE, hs, h⟩ := h
  rw [he] at h
  refine tE.of hE hs h fun x S1 ρ1 H1 v e1 s1 r1 f1 h1 => ?_
  obtain ⟨l, S2, q, hk⟩ := h1.bind
  cases hl : asList S1 x with
  | none => rw [hl] at q; cases q
  | some l' =>
    rw [hl] at q
    cases q
    have h2 := hk ρ1 H1 (Ext.refl _ _)
    refine ⟨is_list s1 r1 hl, ?_⟩
    refine tE.of (hE.mono e1) s1 h2 fun y S3 ρ3 H3 w e3 s3 r3 f3 h3 => ?_
    exact k hid ρ3 H3 S3 x y.settle v w Q s3 (Rep.mono e3 x v r1) (st_settle y) r3.settle (h3.mono fun z S4 ρ4 H4 e q u ru fu => q u ru (fu.anti (e1.trans e3)))
variable {apos : Pos} {xo : Expr} {eo : E} {nm : Str}
theorem s_meth {m : Me} (hu : X.A.units + 65 < cLine) (en : nm = PySem.Str.ofString (meName m)) (ho : PE X xo (tE X.K c eo)) (ha : PE X xa (tE X.K c ea)) (hp : plainE xa = true) (hb : plainO xo = true) (hl : (apos.endLine == pos.line) = true) :
    PE X (.Call (.Attribute xo nm apos) [xa] [] pos) (tE X.K c (.meth m eo ea)) := by
  have A := pa_cons ha (pa_nil (X := X)) (star_cons hp _ _)
  have rd : ∀ σ H Q, tE X.K c (.meth m eo ea) σ H Q → tBM X.K "list" (rMe X.K m) (tE X.K c eo) (tCons (tE X.K c ea) tNil) σ H Q := fun σ H Q h =>
    meth_read (ρb := []) (f := fun x y S => R.of (callMe S m x [y]) S) (fun env S => by simp only [evalE]) (fun hid ρ H S x y v w Q s r1 st r2 o => ⟨hid, ρ, S, x, [y], s, r1, .cons ⟨st, r2⟩ .nil, o⟩) h
  cases m with
  | count =>
    subst en
    exact PE.imp (pe_bm PySem.F.plainAttrs_list PySem.F.slot_list_count PySem.F.type_list_count mt_countQ ho A (plain_base hb _ _) (few_one hp) hl (star_cons hp _ _) (star_none _ _ _ rfl)) rd
  | index =>
    subst en
    exact PE.imp (pe_bm PySem.F.plainAttrs_list PySem.F.slot_list_index PySem.F.type_list_index (mt_indexQ hu) ho A (plain_base hb _ _) (few_one hp) hl (star_cons hp _ _) (star_none _ _ _ rfl)) rd
theorem s_append (en : nm = PySem.Str.ofString "append") (ho : PE X xo (tE X.K c eo)) (ha : PE X xa (tE X.K c ea)) (hp : plainE xa = true) (hb : plainO xo = true) (hl : (apos.endLine == pos.line) = true) :
    PE X (.Call (.Attribute xo nm apos) [xa] [] pos) (tE X.K c (.append eo ea)) := by
  have A := pa_cons ha (pa_nil (X := X)) (star_cons hp _ _)
  subst en
  exact PE.imp (pe_bm PySem.F.plainAttrs_list PySem.F.slot_list_append PySem.F.type_list_append (mt_appQ (b := c.base)) ho A (plain_base hb _ _) (few_one hp) hl (star_cons hp _ _) (star_none _ _ _ rfl)) fun σ H Q h =>
    meth_read (ρb := []) (f := fun x y S => QE.append c.base S x y) (fun env S => by simp only [evalE]) (fun hid ρ H S x y v w Q s r1 st r2 o => ⟨hid, ρ, S, x, y, w, rfl, s, r1, r2, o⟩) h

/-! ### a cell for a fresh list or dict -/
theorem Ext.give {ρ : List Addr} {H H1 : Hp} {ρ1 : List Addr} {a : Addr} (e : Ext ρ H ρ1 H1) (h : H a = none) : Ext ρ H (ρ1 ++ [a]) H1 := by
  obtain ⟨new, q, k⟩ := e.more
  refine ⟨⟨new ++ [a], by rw [q, List.append_assoc], fun b hb => ?_⟩, e.keep, e.there, e.tups, e.frzs⟩
  rcases List.mem_append.mp hb with hb | hb
  · exact k b hb
  · rw [List.mem_singleton.mp hb]; exact h
theorem s_cell {e : Expr} {ev : E} (h : PE X e (tE X.K c ev)) : PE X e (tE X.K c (.cell ev)) := by
  refine PE.imp h fun σ H Q h => ?_
  obtain ⟨hid, ρ, env, S, hE, hs, h⟩ := h
  simp only [evalE] at h
  obtain ⟨x, S1, q, hk⟩ := h.bind
  refine ⟨hid, ρ, env, S, hE, hs, ?_⟩
  rw [q]
  intro ρ1 H1 e1 s1 v r fr
  have hk := hk ρ H (Ext.refl _ _)
  unfold newCell at hk
  split at hk
  · rename_i xs
    obtain ⟨a, ev, h0, s2⟩ := fr
    subst ev
    refine hk (ρ1 ++ [a]) H1 (e1.give h0) s2 (.ref a) ?_ trivial
    simp only [Rep]
    refine ⟨a, ?_, rfl⟩
    rw [← s1.len, List.getElem?_append_right (Nat.le_refl _)]
    simp
  · rename_i t kvs
    obtain ⟨a, ev, h0, s2⟩ := fr
    subst ev
    refine hk (ρ1 ++ [a]) H1 (e1.give h0) s2 (.ref a) ?_ trivial
    simp only [Rep]
    refine ⟨a, ?_, rfl⟩
    rw [← s1.len, List.getElem?_append_right (Nat.le_refl _)]
    simp
  · exact hk.elim
end
end QE

set_option Elab.async false
set_option linter.all false
set_option maxRecDepth 100000
set_option maxHeartbeats 1000000
/-! enumerate(a tuple). -/
namespace PySem
open Sem (wp)
theorem meets_en1 {u : Value} {ob : Obj} {Hh : Heap → Prop} (B : Begins u ob Hh) :
    Meets (Builtin.«enumerate.__new__» ⟨[.type "enumerate", u], []⟩) (fun _ R z => Hh z.heap ∧
      R (.ok (.ret (.ref (z.heap.push ob).objs.size))) { z with heap := (z.heap.push ob).push { cls := .type "enumerate", data := .fields #[.none, .bool false, .ref z.heap.objs.size, rawInt 0, .none, .none] } }) :=
  .of_wp fun pr wo Ar Rr z hz => by
    obtain ⟨hp, g, d, tk, os⟩ := z; obtain ⟨ha, hz⟩ := hz
    have hsub := sub_enumerate
    have it1 : ∀ {A' : Around} {E : Value → Shared → Prop} {Q : Value → Shared → Prop}, Q (.ref hp.objs.size) ⟨hp.push ob, g, d, tk, os⟩ → wpAny (model pr wo) A' (pyIter u) Q E ⟨hp, g, d, tk, os⟩ :=
      fun q => B.iter pr wo _ _ ⟨hp, g, d, tk, os⟩ _ ha q
    wp_walk using it1
    refine wpAny_stack_any fun st => wpAny_pure ?_
    split
    · rename_i c _ _ _ _ _
      cases (c == Value.type "enumerate")
      · wp_walk using it1
        exact ⟨_, rfl, hz⟩
      · wp_walk using it1
        exact ⟨_, rfl, hz⟩
    · wp_walk using it1
      exact ⟨_, rfl, hz⟩
theorem call_en1 {prog : Program} {w : World} {A : Around} {E : Value → Shared → Prop} {z : Shared} {u : Value} {ob : Obj} {Hh : Heap → Prop} {Q : Value → Shared → Prop} (B : Begins u ob Hh) (ha : Hh z.heap)
    (k : ∀ h', IsEnum h' (z.heap.objs.size + 1) z.heap.objs.size 0 .none → h'.get? z.heap.objs.size = some ob → (∀ c r, z.heap.get? c = some r → h'.get? c = some r) → Q (.ref (z.heap.objs.size + 1)) { z with heap := h' }) :
    wpAny (model prog w) A (call (.type "enumerate") [u]) Q E z := by
  refine callType_new F.called_enumerate (by decide) (F.typeCall_enumerate_1 _) (F.newCall_enumerate_1 _) (fun obj => F.args_object_init_2 obj _) F.entry_enumerate_new
    (meets_en1 B) ⟨ha, ?_⟩
  have hz : (z.heap.push ob).objs.size = z.heap.objs.size + 1 := Heap.size_push ..
  show _ ∧ _
  rw [hz]
  have he : IsEnum ((z.heap.push ob).push { cls := .type "enumerate", data := .fields #[.none, .bool false, .ref z.heap.objs.size, rawInt 0, .none, .none] }) (z.heap.objs.size + 1) z.heap.objs.size 0 .none := by
    have := Heap.get?_push_size (z.heap.push ob) (o := { cls := .type "enumerate", data := .fields #[.none, .bool false, .ref z.heap.objs.size, rawInt 0, .none, .none] }) rfl
    rw [hz] at this; exact this
  exact ⟨⟨_, he, rfl⟩, k _ he (Heap.get?_push_of_some _ (Heap.get?_push_size _ B.free)) fun c r x => Heap.get?_push_of_some _ (Heap.get?_push_of_some _ x)⟩
end PySem
namespace QE
open PySem PySem.Spec PyProof.Rows L2
/-- the tuple at a, each item in a new pair -/
def IteT (K : PySem.W.Frag) (a : Addr) : It :=
  ⟨fun i H => ∃ (ys : List V) (y : V), SqT K H a ys ∧ ys[i]? = some y, fun i H v H' => ∃ T y, v = .ref T ∧ H T = none ∧ H' = upd H T (.tup [.int (i : Nat), y]) ∧ ∀ ys, SqT K H a ys → ys[i]? = some y,
    fun i H => ∃ ys : List V, SqT K H a ys ∧ ys.length = i⟩
theorem turn_enumT {P : Program} {w : World} {K : PySem.W.Frag} {elts : List Expr} {kk : Nat} {tpos : Pos} (a e it : Addr) :
    Turn P w K (.Tuple elts kk tpos) (IteT K a) [e, it] e (fun i h => (∃ old, IsEnum h e it ((i : Nat) : Int) old) ∧ h.IsTupleIter it a i ∧ e ≠ it ∧ a ≠ it ∧ e ≠ a) where
  mem := by simp
  obj := fun i h st b hb => by
    obtain ⟨⟨old, he⟩, ⟨o, ho, hc, hd⟩, _⟩ := st
    have e' : b = e ∨ b = it := by simpa using hb
    rcases e' with z | z
    · rw [z]; exact ⟨_, he, fun v q => nomatch q⟩
    · rw [z]; exact ⟨o, ho, fun v q => by rw [hd] at q; cases q⟩
  keep := fun i h h' st k => let ⟨⟨old, he⟩, hi, hne⟩ := st; ⟨⟨old, k e (by simp) _ he⟩, hi.at fun o q => k it (by simp) o q, hne⟩
  item := by
    intro X hP hw hK hc i pins s σ H E I hf st hg
    subst hP hw hK
    obtain ⟨⟨old, he⟩, hit, hne, hai, hea⟩ := st
    obtain ⟨ys, y, hq, hy⟩ := hg
    obtain ⟨its, rv, p, hz⟩ := I.tuple hq
    have p : s.heap.IsTuple a its.toArray := p
    obtain ⟨u, hu, ru⟩ := rv.get hy
    have hel : e < s.heap.objs.size := Heap.lt_size he
    have hil : it < s.heap.objs.size := by obtain ⟨_, q, _⟩ := hit; exact Heap.lt_size q
    have lt : i < its.toArray.size := by
      have := (List.getElem?_eq_some_iff.mp hu).1
      simpa using this
    refine wpAny_pyNext_enum_itemD (Draws.tuple (A := X.A.in1) (I.ok.hd hc) it a hai its.toArray) he ⟨hit, p⟩ lt hne (by simp [hne, hea]) fun x h' tk hP ho hS hT hsz hk => ?_
    have ex : x = u := by
      have : its.toArray[i]? = some u := by simpa using hu
      rw [this] at hP
      exact (Option.some.inj hP).symm
    subst ex
    refine ⟨_, rfl, wpAny_letOwnedTupleGo_enum (s := { s with heap := h', toks := tk + 1 }) ho fun h'' he' sb => ?_⟩
    have hT2 : h''.get? s.heap.objs.size = some { cls := .type "tuple", data := .seq #[.int i tk, x] } := (sb.2 _ (Nat.ne_of_gt hel)).trans hT
    have new : ObjOk X.prog X.w (upd H s.heap.objs.size (.tup [.int (i : Nat), y])) h'' s.heap.objs.size (.tup [.int (i : Nat), y]) :=
      ⟨by show 2 ≤ sizeLine; decide, [.int i tk, x], .cons ⟨_, rfl⟩ (.cons ru .nil), ⟨_, hT2, rfl, _, rfl⟩⟩
    have I1 : Inv X pins σ (upd H s.heap.objs.size (.tup [.int (i : Nat), y])) { s with heap := h'', toks := tk + 1 } :=
      I.turnedNew (ch := [e, it]) (fun c oc hb q => (sb.2 c (fun z => hb (by simp [z]))).trans (hk c oc (fun z => hb (by simp [z])) (fun z => hb (by simp [z])) q)) hf (Nat.le_refl _) new
    refine ⟨.ref s.heap.objs.size, _, I1, rfl, ⟨_, y, rfl, I.hok.fresh (Nat.le_refl _), rfl, fun zs hz => by rw [I.tuple_inj hz hq]; exact hy⟩, ⟨⟨x, ?_⟩, hS.1.at fun o q => (sb.2 it (Ne.symm hne)).trans q, hne, hai, hea⟩, fun c hb => ?_⟩
    · have e1 : ((i + 1 : Nat) : Int) = (i : Int) + 1 := by omega
      rw [e1]; exact he'
    · have hb' : c < s.heap.objs.size := by
        have e' : c = e ∨ c = it := by simpa using hb
        rcases e' with z | z
        · rw [z]; exact hel
        · rw [z]; exact hil
      rw [upd_ne (Nat.ne_of_lt hb')]
      exact (hf c hb).1
  done := by
    intro X hP hw hK hc i pins s σ H E I hf st hg
    subst hP hw hK
    obtain ⟨⟨old, he⟩, hit, hne, hai, hea⟩ := st
    obtain ⟨ys, hq, hx⟩ := hg
    obtain ⟨its, rv, p, hz⟩ := I.tuple hq
    have p : s.heap.IsTuple a its.toArray := p
    obtain ⟨f0, f1, f2, f3, f4, f5⟩ := hf it (by simp)
    have hl := rv.length
    obtain ⟨oi, qi, ci, di⟩ := id hit
    have ei : i = its.toArray.size := by simp; omega
    subst ei
    exact wpAny_pyNext_enum_endD (Draws.tuple (A := X.A.in1) (I.ok.hd hc) it a hai its.toArray) he ⟨hit, p⟩ fun h' eb => ⟨rfl, I.turned (t' := s.toks) (fun b o hb q => eb b o hb q) f0 f1 f3 f4 f5⟩
  self := fun A i s Q E st h => let ⟨⟨_, he⟩, _⟩ := st; wpAny_pyIter_enum he h
def iEn (K : PySem.W.Frag) (ta : TA) : TI := fun σ H R => ta σ H fun vs H1 => ∃ a xs, vs = [.ref a] ∧ ((SqL K H1 a xs ∧ R (Ite K a) H1) ∨ (SqT K H1 a xs ∧ R (IteT K a) H1))
theorem pi_en {X : Cx} {e : Expr} {ta : TA} {p pos tpos : Pos} {elts : List Expr} {kk : Nat} (hg : Gl X "enumerate") (hm : X.mg "enumerate" = none) (ha : PA X [e] ta) (hs : starEach [e] X.env = [(false, eval e X.env)]) :
    PI X (.Tuple elts kk tpos) (.Call (.Name "enumerate" p) [e] [] pos) (iEn X.K ta) := by
  refine ⟨fun pins s σ H R I h => ?_⟩
  refine Call_ (ld_blt I hg hm boot_enumerate (PyProof.Rows.callWith_type1 (thn (ha.run pos pins s σ H _ I h) fun us s1 ⟨vs, H1, I1, r1, q1⟩ => ?_) hs rfl))
  obtain ⟨a, xs, ex, q1⟩ := q1
  subst ex
  cases r1 with
  | cons r rr =>
    cases rr
    cases r
    have fr : ∀ b, b ∈ [s1.heap.objs.size + 1, s1.heap.objs.size] → FpOk X pins H1 b := fun b hb => by
      have e' : b = s1.heap.objs.size + 1 ∨ b = s1.heap.objs.size := by simpa using hb
      have hle : s1.heap.objs.size ≤ b := by
        rcases e' with z | z
        · rw [z]; exact Nat.le_add_right _ _
        · rw [z]; exact Nat.le_refl _
      exact I1.fpOk hle (I1.hok.fresh hle)
    rcases q1 with ⟨hq, q⟩ | ⟨hq, q⟩
    · obtain ⟨its, rv, p', hz⟩ := I1.list hq
      refine call_enumerate_list p'.isList fun h' he hit hsz hk => wpAny_pyIter_enum he ?_
      exact ⟨s1.heap.objs.size + 1, [s1.heap.objs.size + 1, s1.heap.objs.size], _, _, H1, rfl, I1.kept (t' := s1.toks) hk, turn_enum a (s1.heap.objs.size + 1) s1.heap.objs.size, ⟨⟨.none, he⟩, hit, Nat.succ_ne_self _⟩, fr, q⟩
    · obtain ⟨its, rv, p', hz⟩ := I1.tuple hq
      have p' : s1.heap.IsTuple a its.toArray := p'
      obtain ⟨oa, ha', _⟩ := id p'
      have la := Heap.lt_size ha'
      refine call_en1 (begins_tuple a its.toArray) p' fun h' he hit hk => wpAny_pyIter_enum he ?_
      exact ⟨s1.heap.objs.size + 1, [s1.heap.objs.size + 1, s1.heap.objs.size], _, _, H1, rfl, I1.kept (t' := s1.toks) hk, turn_enumT a (s1.heap.objs.size + 1) s1.heap.objs.size,
        ⟨⟨.none, he⟩, ⟨_, hit, rfl, rfl⟩, Nat.succ_ne_self _, Nat.ne_of_lt la, Nat.ne_of_gt (Nat.lt_succ_of_lt la)⟩, fr, q⟩
end QE

set_option Elab.async false
set_option linter.all false
set_option maxRecDepth 10000
set_option maxHeartbeats 1000000
/-! What a loop walks: sources. Hidden addresses. -/
namespace QE
open PySem PySem.Spec PyProof.Rows L2
section
variable {K : PySem.W.Frag} {hid ρ : List Addr} {H : Hp} {D : Addr}
/-! ### one address more is hidden -/
theorem ne_D (h : H D = none) {a : Addr} {u : HO} (q : H a = some u) : a ≠ D := fun z => by rw [z, h] at q; cases q
mutual
theorem Rep.hide (hd : H D = none) : ∀ (x : Val) (v : V), Rep K hid ρ H x v → Rep K (D :: hid) ρ H x v
  | .non, v, h => by simp only [Rep] at h ⊢; exact h
  | .bl b, v, h => by simp only [Rep] at h ⊢; exact h
  | .int i, v, h => by simp only [Rep] at h ⊢; exact h
  | .str s, v, h => by simp only [Rep] at h ⊢; exact h
  | .tup xs, v, h => by
    simp only [Rep] at h ⊢
    obtain ⟨a, vs, h1, h2, h3⟩ := h
    exact ⟨a, vs, h1, h2, RepL.hide hd xs vs h3⟩
  | .lst f xs, v, h => by
    simp only [Rep] at h ⊢
    obtain ⟨a, vs, h1, h2, h3, h4, h5⟩ := h
    obtain ⟨u, hu⟩ := rd_there h2.rd
    exact ⟨a, vs, h1, h2, h3, by simp [h4, ne_D hd hu], RepL.hide hd xs vs h5⟩
  | .dic f true kvs, v, h => by
    simp only [Rep] at h ⊢
    obtain ⟨a, vs, h1, h2, h3, h4, h5⟩ := h
    exact ⟨a, vs, h1, h2, h3, by simp [h4, ne_D hd h2], RepT.hide hd kvs vs h5⟩
  | .dic f false kvs, v, h => by
    simp only [Rep] at h ⊢
    obtain ⟨a, vs, h1, h2, h3, h4, h5⟩ := h
    exact ⟨a, vs, h1, h2, h3, by simp [h4, ne_D hd h2], RepK.hide hd kvs vs h5⟩
  | .ref n, v, h => by simp only [Rep] at h ⊢; exact h
  | .kls ns, v, h => by simp only [Rep] at h ⊢; exact h
theorem RepL.hide (hd : H D = none) : ∀ (xs : List Val) (vs : List V), RepL K hid ρ H xs vs → RepL K (D :: hid) ρ H xs vs
  | [], vs, h => by simp only [RepL] at h ⊢; exact h
  | x :: xs, vs, h => by
    simp only [RepL] at h ⊢
    obtain ⟨v, r, h1, h2, h3⟩ := h
    exact ⟨v, r, h1, ⟨h2.1, Rep.hide hd x v h2.2⟩, RepL.hide hd xs r h3⟩
theorem RepK.hide (hd : H D = none) : ∀ (xs : List (Val × Val)) (ws : List (L2.Key × V)), RepK K hid ρ H xs ws → RepK K (D :: hid) ρ H xs ws
  | [], vs, h => by simp only [RepK] at h ⊢; exact h
  | (k, x) :: xs, vs, h => by
    simp only [RepK] at h ⊢
    obtain ⟨v, r, h1, h4, h2, h3⟩ := h
    exact ⟨v, r, h1, h4, ⟨h2.1, Rep.hide hd x v h2.2⟩, RepK.hide hd xs r h3⟩
theorem RepT.hide (hd : H D = none) : ∀ (xs : List (Val × Val)) (ws : List (List L2.Key × V)), RepT K hid ρ H xs ws → RepT K (D :: hid) ρ H xs ws
  | [], vs, h => by simp only [RepT] at h ⊢; exact h
  | (k, x) :: xs, vs, h => by
    simp only [RepT] at h ⊢
    obtain ⟨v, r, h1, h4, h2, h3⟩ := h
    exact ⟨v, r, h1, h4, ⟨h2.1, Rep.hide hd x v h2.2⟩, RepT.hide hd xs r h3⟩
end
mutual
theorem Rep.seen : ∀ (x : Val) (v : V), Rep K (D :: hid) ρ H x v → Rep K hid ρ H x v
  | .non, v, h => by simp only [Rep] at h ⊢; exact h
  | .bl b, v, h => by simp only [Rep] at h ⊢; exact h
  | .int i, v, h => by simp only [Rep] at h ⊢; exact h
  | .str s, v, h => by simp only [Rep] at h ⊢; exact h
  | .tup xs, v, h => by
    simp only [Rep] at h ⊢
    obtain ⟨a, vs, h1, h2, h3⟩ := h
    exact ⟨a, vs, h1, h2, RepL.seen xs vs h3⟩
  | .lst f xs, v, h => by
    simp only [Rep] at h ⊢
    obtain ⟨a, vs, h1, h2, h3, h4, h5⟩ := h
    exact ⟨a, vs, h1, h2, h3, fun z => h4 (List.mem_cons_of_mem _ z), RepL.seen xs vs h5⟩
  | .dic f true kvs, v, h => by
    simp only [Rep] at h ⊢
    obtain ⟨a, vs, h1, h2, h3, h4, h5⟩ := h
    exact ⟨a, vs, h1, h2, h3, fun z => h4 (List.mem_cons_of_mem _ z), RepT.seen kvs vs h5⟩
  | .dic f false kvs, v, h => by
    simp only [Rep] at h ⊢
    obtain ⟨a, vs, h1, h2, h3, h4, h5⟩ := h
    exact ⟨a, vs, h1, h2, h3, fun z => h4 (List.mem_cons_of_mem _ z), RepK.seen kvs vs h5⟩
  | .ref n, v, h => by simp only [Rep] at h ⊢; exact h
  | .kls ns, v, h => by simp only [Rep] at h ⊢; exact h
theorem RepL.seen : ∀ (xs : List Val) (vs : List V), RepL K (D :: hid) ρ H xs vs → RepL K hid ρ H xs vs
  | [], vs, h => by simp only [RepL] at h ⊢; exact h
  | x :: xs, vs, h => by
    simp only [RepL] at h ⊢
    obtain ⟨v, r, h1, h2, h3⟩ := h
    exact ⟨v, r, h1, ⟨h2.1, Rep.seen x v h2.2⟩, RepL.seen xs r h3⟩
theorem RepK.seen : ∀ (xs : List (Val × Val)) (ws : List (L2.Key × V)), RepK K (D :: hid) ρ H xs ws → RepK K hid ρ H xs ws
  | [], vs, h => by simp only [RepK] at h ⊢; exact h
  | (k, x) :: xs, vs, h => by
    simp only [RepK] at h ⊢
    obtain ⟨v, r, h1, h4, h2, h3⟩ := h
    exact ⟨v, r, h1, h4, ⟨h2.1, Rep.seen x v h2.2⟩, RepK.seen xs r h3⟩
theorem RepT.seen : ∀ (xs : List (Val × Val)) (ws : List (List L2.Key × V)), RepT K (D :: hid) ρ H xs ws → RepT K hid ρ H xs ws
  | [], vs, h => by simp only [RepT] at h ⊢; exact h
  | (k, x) :: xs, vs, h => by
    simp only [RepT] at h ⊢
    obtain ⟨v, r, h1, h4, h2, h3⟩ := h
    exact ⟨v, r, h1, h4, ⟨h2.1, Rep.seen x v h2.2⟩, RepT.seen xs r h3⟩
end
theorem ObRep.hide (hd : H D = none) {a : Addr} : ∀ {o : Ob}, ObRep K hid ρ H a o → ObRep K (D :: hid) ρ H a o
  | .lst xs, ⟨vs, h1, h2⟩ => ⟨vs, h1, RepL.hide hd xs vs h2⟩
  | .dic true xs, ⟨vs, h1, h2⟩ => ⟨vs, h1, RepT.hide hd xs vs h2⟩
  | .dic false xs, ⟨vs, h1, h2⟩ => ⟨vs, h1, RepK.hide hd xs vs h2⟩
theorem ObRep.seen {a : Addr} : ∀ {o : Ob}, ObRep K (D :: hid) ρ H a o → ObRep K hid ρ H a o
  | .lst xs, ⟨vs, h1, h2⟩ => ⟨vs, h1, RepL.seen xs vs h2⟩
  | .dic true xs, ⟨vs, h1, h2⟩ => ⟨vs, h1, RepT.seen xs vs h2⟩
  | .dic false xs, ⟨vs, h1, h2⟩ => ⟨vs, h1, RepK.seen xs vs h2⟩
theorem SOk.hide {S : Sto} {o : HO} (s : SOk K hid ρ H S) (hd : H D = none) : SOk K (D :: hid) ρ (upd H D o) S := by
  have s' := s.new hd (o := o)
  refine ⟨s.len, s.nd, fun a ha => ?_, fun a ha => ?_, fun n ob q => ?_⟩
  · intro z
    rcases List.mem_cons.mp z with z | z
    · exact s.new1 hd (z ▸ ha)
    · exact s.apart a ha z
  · rcases List.mem_cons.mp ha with z | z
    · subst z; exact ⟨o, upd_same⟩
    · exact s'.hidd a z
  · obtain ⟨a, h1, h2⟩ := s.ob n ob q
    exact ⟨a, h1, (h2.hide hd).mono (Ext.new hd) (upd_ne fun z => s.new1 hd (z ▸ List.mem_of_getElem? h1))⟩
theorem SOk.seen {S : Sto} (s : SOk K (D :: hid) ρ H S) : SOk K hid ρ H S := by
  refine ⟨s.len, s.nd, fun a ha z => s.apart a ha (List.mem_cons_of_mem _ z), fun a ha => s.hidd a (List.mem_cons_of_mem _ ha), fun n ob q => ?_⟩
  obtain ⟨a, h1, h2⟩ := s.ob n ob q
  exact ⟨a, h1, h2.seen⟩
theorem ERep.hide {env : Env} {σ : L2.St} {o : HO} (h : ERep K hid ρ H env σ) (hd : H D = none) : ERep K (D :: hid) ρ (upd H D o) env σ := by
  refine ⟨h.len, fun i x q => ?_⟩
  obtain ⟨v, a, st, b⟩ := h.at_ i x q
  exact ⟨v, a, st, Rep.mono (Ext.new hd) x v (Rep.hide hd x v b)⟩
theorem ERep.seen {env : Env} {σ : L2.St} (h : ERep K (D :: hid) ρ H env σ) : ERep K hid ρ H env σ := by
  refine ⟨h.len, fun i x q => ?_⟩
  obtain ⟨v, a, st, b⟩ := h.at_ i x q
  exact ⟨v, a, st, Rep.seen x v b⟩

/-! ### what is walked -/
inductive WalkOk (K : PySem.W.Frag) (hid ρ : List Addr) (H : Hp) : List Val → It → Prop
  | list {a : Addr} {vs : List V} {xs : List Val} (h : Rd H a (.lst vs)) (ha : a ∉ ρ) (r : RepL K hid ρ H xs vs) : WalkOk K hid ρ H xs (Itl K a)
  | tup {a : Addr} {vs : List V} {xs : List Val} (h : H a = some (.tup vs)) (r : RepL K hid ρ H xs vs) : WalkOk K hid ρ H xs (Itt K a)
  | range {lo : Int} {n : Nat} : WalkOk K hid ρ H (rangeV lo n) (Itr lo n)
  | str {s : List Nat} : WalkOk K hid ρ H (s.map fun c => .str [c]) (Its (strOf s))
  | enumL {a : Addr} {vs : List V} {xs : List Val} (h : Rd H a (.lst vs)) (ha : a ∉ ρ) (r : RepL K hid ρ H xs vs) : WalkOk K hid ρ H (enumFrom 0 xs) (Ite K a)
  | enumT {a : Addr} {vs : List V} {xs : List Val} (h : H a = some (.tup vs)) (r : RepL K hid ρ H xs vs) : WalkOk K hid ρ H (enumFrom 0 xs) (IteT K a)
  | zipL {a b : Addr} {vs ws : List V} {xs ys : List Val} (h : Rd H a (.lst vs)) (ha : a ∉ ρ) (r : RepL K hid ρ H xs vs) (h' : Rd H b (.lst ws)) (hb : b ∉ ρ) (r' : RepL K hid ρ H ys ws) : WalkOk K hid ρ H (zipV xs ys) (Itz K a b)
  | zipT {a b : Addr} {vs ws : List V} {xs ys : List Val} (h : H a = some (.tup vs)) (r : RepL K hid ρ H xs vs) (h' : H b = some (.tup ws)) (r' : RepL K hid ρ H ys ws) : WalkOk K hid ρ H (zipV xs ys) (RZ.ItzT K a b)
theorem WalkOk.hide {xs : List Val} {J : It} {o : HO} (h : WalkOk K hid ρ H xs J) (hd : H D = none) : WalkOk K (D :: hid) ρ (upd H D o) xs J := by
  have e : Ext ρ H ρ (upd H D o) := Ext.new hd
  have rl : ∀ {xs : List Val} {vs : List V}, RepL K hid ρ H xs vs → RepL K (D :: hid) ρ (upd H D o) xs vs := fun {xs vs} r => RepL.mono e _ _ (RepL.hide hd xs vs r)
  cases h with
  | list h ha r => exact .list (e.rd ha h) ha (rl r)
  | tup h r => exact .tup (e.tups _ _ h) (rl r)
  | range => exact .range
  | str => exact .str
  | enumL h ha r => exact .enumL (e.rd ha h) ha (rl r)
  | enumT h r => exact .enumT (e.tups _ _ h) (rl r)
  | zipL h ha r h' hb r' => exact .zipL (e.rd ha h) ha (rl r) (e.rd hb h') hb (rl r')
  | zipT h r h' r' => exact .zipT (e.tups _ _ h) (rl r) (e.tups _ _ h') (rl r')
theorem rangeV_len : ∀ (lo : Int) (n : Nat), (rangeV lo n).length = n
  | _, 0 => rfl
  | lo, n + 1 => by simp [rangeV, rangeV_len]
theorem rangeV_get : ∀ (lo : Int) (n i : Nat), i < n → (rangeV lo n)[i]? = some (.int (lo + i))
  | lo, n + 1, 0, _ => by simp [rangeV]
  | lo, n + 1, i + 1, h => by
    simp only [rangeV, List.getElem?_cons_succ]
    rw [rangeV_get (lo + 1) n i (by omega)]
    congr 2
    push_cast
    omega
theorem enumFrom_len : ∀ (n : Nat) (xs : List Val), (enumFrom n xs).length = xs.length
  | _, [] => rfl
  | n, x :: xs => by simp [enumFrom, enumFrom_len]
theorem enumFrom_get : ∀ (n : Nat) (xs : List Val) (i : Nat) (x : Val), xs[i]? = some x → (enumFrom n xs)[i]? = some (.tup [.int ((n + i : Nat) : Int), x])
  | _, [], _, _, h => by simp at h
  | n, y :: xs, 0, x, h => by simp at h; subst h; simp [enumFrom]
  | n, y :: xs, i + 1, x, h => by
    simp only [enumFrom, List.getElem?_cons_succ] at h ⊢
    rw [enumFrom_get (n + 1) xs i x h]
    congr 4
    omega
theorem zipV_len : ∀ (xs ys : List Val), (zipV xs ys).length = min xs.length ys.length
  | [], _ => by simp [zipV]
  | _ :: _, [] => by simp [zipV]
  | x :: xs, y :: ys => by simp only [zipV, List.length_cons, zipV_len xs ys]; omega
theorem zipV_get : ∀ (xs ys : List Val) (i : Nat) (x y : Val), xs[i]? = some x → ys[i]? = some y → (zipV xs ys)[i]? = some (.tup [x, y])
  | [], _, _, _, _, h, _ => by simp at h
  | _ :: _, [], _, _, _, _, h => by simp at h
  | a :: xs, b :: ys, 0, x, y, h1, h2 => by simp at h1 h2; subst h1 h2; simp [zipV]
  | a :: xs, b :: ys, i + 1, x, y, h1, h2 => by
    simp only [zipV, List.getElem?_cons_succ] at h1 h2 ⊢
    exact zipV_get xs ys i x y h1 h2
theorem RepL.nth {xs : List Val} {vs : List V} {i : Nat} {v : V} (r : RepL K hid ρ H xs vs) (h : vs[i]? = some v) : ∃ x, xs[i]? = some x ∧ x.st = true ∧ Rep K hid ρ H x v := by
  have hl := r.length
  have lt := (List.getElem?_eq_some_iff.mp h).1
  have q : xs[i]? = some xs[i] := List.getElem?_eq_getElem (by omega)
  obtain ⟨w, h1, h2⟩ := r.get q
  rw [h] at h1
  cases h1
  exact ⟨_, q, h2⟩
/-- the i-th turn -/
def YR (K : PySem.W.Frag) (hid ρ : List Addr) (H : Hp) (xs : List Val) : Nat → Hp → V → Hp → Prop := fun i H2 v H3 => ∀ ρ2 S, Ext ρ H ρ2 H2 → SOk K hid ρ2 H2 S →
  ∃ x, xs[i]? = some x ∧ Ext ρ2 H2 ρ2 H3 ∧ SOk K hid ρ2 H3 S ∧ x.st = true ∧ Rep K hid ρ2 H3 x v
theorem yr_same {xs ys : List Val} {vs : List V} (r : RepL K hid ρ H ys vs) (f : ∀ (i : Nat) (x : Val), ys[i]? = some x → xs[i]? = some x) {i : Nat} {H2 H3 : Hp} {v : V} (y : H3 = H2 ∧ vs[i]? = some v) : YR K hid ρ H xs i H2 v H3 := by
  intro ρ2 S e s
  obtain ⟨e1, q⟩ := y
  subst e1
  obtain ⟨x, h1, h2, h3⟩ := r.nth q
  exact ⟨x, f i x h1, Ext.refl _ _, s, h2, Rep.mono e x v h3⟩
theorem yr_pair {xs : List Val} {i : Nat} {H2 H3 : Hp} {v a b : V} {x y : Val} {T : Addr} (hv : v = .ref T) (hT : H2 T = none) (hH : H3 = upd H2 T (.tup [a, b])) (hx : xs[i]? = some (.tup [x, y])) (ra : x.st = true ∧ Rep K hid ρ H x a) (rb : y.st = true ∧ Rep K hid ρ H y b) : YR K hid ρ H xs i H2 v H3 := by
  intro ρ2 S e s
  subst hv hH
  exact ⟨_, hx, Ext.new hT, s.new hT, rfl, rep_newT hT (.cons ⟨ra.1, Rep.mono e _ _ ra.2⟩ (.cons ⟨rb.1, Rep.mono e _ _ rb.2⟩ .nil))⟩
theorem WalkOk.walk {xs : List Val} {J : It} (h : WalkOk K hid ρ H xs J) : Walk J xs.length (fun H2 => ∃ ρ2, Ext ρ H ρ2 H2) (YR K hid ρ H xs) := by
  cases h with
  | list h ha r =>
    rw [← r.length]
    exact walk_list.mono (fun H2 ⟨ρ2, e⟩ => .inl (e.rd ha h)) fun i H2 v H3 hi _ y => yr_same r (fun _ _ q => q) y
  | tup h r =>
    rw [← r.length]
    exact walk_tup.mono (fun H2 ⟨ρ2, e⟩ => SqT.of (e.tups _ _ h)) fun i H2 v H3 hi _ y => yr_same r (fun _ _ q => q) y
  | @range lo n =>
    rw [rangeV_len]
    refine walk_range.mono (fun H2 _ => trivial) fun i H2 v H3 hi _ y => ?_
    intro ρ2 S e s
    obtain ⟨e1, e2⟩ := y
    subst e1 e2
    exact ⟨_, rangeV_get lo n i hi, Ext.refl _ _, s, rfl, .of_int⟩
  | @str z =>
    have hz : (strOf z).cps.size = (z.map fun c => Val.str [c]).length := by simp [strOf]
    rw [← hz]
    refine walk_str.mono (fun H2 _ => trivial) fun i H2 v H3 hi _ y => ?_
    intro ρ2 S e s
    obtain ⟨e1, ch, e2, e3⟩ := y
    subst e1 e3
    have q : z[i]? = some ch := by simpa [strOf] using e2
    refine ⟨.str [ch], by simp [q], Ext.refl _ _, s, rfl, ?_⟩
    simp only [Rep, strOf]
  | enumL h ha r =>
    rw [enumFrom_len, ← r.length]
    refine walk_enum.mono (fun H2 ⟨ρ2, e⟩ => .inl (e.rd ha h)) fun i H2 v H3 hi _ y => ?_
    obtain ⟨T, a, b, h1, h2, h3, h4, h5⟩ := y
    cases h4
    obtain ⟨x, q1, q2⟩ := r.nth h5
    have q3 := enumFrom_get 0 _ _ _ q1
    rw [Nat.zero_add] at q3
    exact yr_pair h1 h2 h3 q3 ⟨rfl, .of_int⟩ q2
  | @enumT a0 vs0 ys h r =>
    rw [enumFrom_len, ← r.length]
    have W : Walk (IteT K a0) vs0.length (fun H => SqT K H a0 vs0) (YPair (fun i => some (.int (i : Nat))) (fun i => vs0[i]?)) := by
      refine ⟨fun i _ hi q => ⟨vs0, vs0[i], q, by simp [hi]⟩, fun _ q => ⟨vs0, q, rfl⟩, fun i H v H' _ q y => ?_⟩
      obtain ⟨T, x, h1, h2, h3, h4⟩ := y
      exact ⟨T, .int (i : Nat), x, h1, h2, h3, rfl, h4 vs0 q⟩
    refine W.mono (fun H2 ⟨ρ2, e⟩ => SqT.of (e.tups _ _ h)) fun i H2 v H3 hi _ y => ?_
    obtain ⟨T, a, b, h1, h2, h3, h4, h5⟩ := y
    cases h4
    obtain ⟨x, q1, q2⟩ := r.nth h5
    have q3 := enumFrom_get 0 _ _ _ q1
    rw [Nat.zero_add] at q3
    exact yr_pair h1 h2 h3 q3 ⟨rfl, .of_int⟩ q2
  | zipL h ha r h' hb r' =>
    have hn := zipV_len
    rw [zipV_len, ← r.length, ← r'.length]
    refine (walk_zip rfl).mono (fun H2 ⟨ρ2, e⟩ => ⟨.inl (e.rd ha h), .inl (e.rd hb h')⟩) fun i H2 v H3 hi _ y => ?_
    obtain ⟨T, a, b, h1, h2, h3, h4, h5⟩ := y
    obtain ⟨x, q1, q2⟩ := r.nth h4
    obtain ⟨x', q1', q2'⟩ := r'.nth h5
    exact yr_pair h1 h2 h3 (zipV_get _ _ _ _ _ q1 q1') q2 q2'
  | @zipT a0 b0 vs0 ws0 xs0 ys0 h r h' r' =>
    rw [zipV_len, ← r.length, ← r'.length]
    have W : Walk (RZ.ItzT K a0 b0) (min vs0.length ws0.length) (fun H => SqT K H a0 vs0 ∧ SqT K H b0 ws0) (YPair (fun i => vs0[i]?) (fun i => ws0[i]?)) := by
      refine ⟨fun i _ hi q => ?_, fun _ q => ⟨vs0, ws0, q.1, q.2, by omega⟩, fun i H v H' _ q y => ?_⟩
      · exact ⟨vs0, ws0, vs0[i]'(by omega), ws0[i]'(by omega), q.1, q.2, by simp, by simp⟩
      · obtain ⟨T, x, z, h1, h2, h3, h4, h5⟩ := y
        exact ⟨T, x, z, h1, h2, h3, h4 vs0 q.1, h5 ws0 q.2⟩
    refine W.mono (fun H2 ⟨ρ2, e⟩ => ⟨SqT.of (e.tups _ _ h), SqT.of (e.tups _ _ h')⟩) fun i H2 v H3 hi _ y => ?_
    obtain ⟨T, a, b, h1, h2, h3, h4, h5⟩ := y
    obtain ⟨x, q1, q2⟩ := r.nth h4
    obtain ⟨x', q1', q2'⟩ := r'.nth h5
    exact yr_pair h1 h2 h3 (zipV_get _ _ _ _ _ q1 q1') q2 q2'
end

/-! ### sources -/
def tI (K : PySem.W.Frag) (c : Ctx) (src : Src) : TI := fun σ H R => ∃ hid ρ env S, ERep K hid ρ H env σ ∧ SOk K hid ρ H S ∧
  Out K hid ρ H (evalSrc c src env S) fun xs _ ρ' H' => ∀ J, WalkOk K hid ρ' H' xs J → R J H'
section
variable {X : Cx} {c : Ctx} {pos : Pos} {tg xa xb : Expr} {ea eb : E}
theorem Out.some {K : PySem.W.Frag} {hid ρ : List Addr} {H : Hp} {α β : Type} {o : Option α} {S : Sto} {f : α → Sto → R β} {G : β → Sto → List Addr → Hp → Prop} (h : Out K hid ρ H ((R.of o S).bind f) G) : ∃ a, o = some a ∧ Out K hid ρ H (f a S) G := by
  cases o with
  | none => exact h.elim
  | some a => exact ⟨a, rfl, h⟩
theorem i_it (ha : PE X xa (tE X.K c ea)) : PI X tg xa (tI X.K c (.it ea)) := by
  refine ⟨fun pins s σ H R I h => ?_⟩
  obtain ⟨hid, ρ, env, S, hE, hs, h⟩ := h
  simp only [evalSrc] at h
  obtain ⟨x, S1, q, hk⟩ := h.bind
  obtain ⟨xs, hw, _⟩ := (hk ρ H (Ext.refl _ _)).of
  have hk' : ∀ ρ1 H1, Ext ρ H ρ1 H1 → SOk X.K hid ρ1 H1 S1 → ∀ J, WalkOk X.K hid ρ1 H1 xs J → R J H1 := fun ρ1 H1 e1 s1 => by
    have := hk ρ1 H1 e1
    rw [hw] at this
    exact this.pure s1
  cases x with
  | tup ys =>
    cases hw
    refine (pi_tup ha).run pins s σ H R I ⟨hid, ρ, env, S, hE, hs, ?_⟩
    rw [q]
    intro ρ1 H1 e1 s1 v r fr
    simp only [Rep] at r
    obtain ⟨a, vs, h1, h2, h3⟩ := r
    exact ⟨a, h1, ⟨vs, SqT.of h2⟩, hk' ρ1 H1 e1 s1 _ (.tup h2 h3)⟩
  | lst f ys =>
    cases hw
    refine (pi_list ha).run pins s σ H R I ⟨hid, ρ, env, S, hE, hs, ?_⟩
    rw [q]
    intro ρ1 H1 e1 s1 v r fr
    simp only [Rep] at r
    obtain ⟨a, vs, h1, h2, h3, h4, h5⟩ := r
    exact ⟨a, h1, ⟨vs, .inl h2.rd⟩, hk' ρ1 H1 e1 s1 _ (.list h2.rd h3 h5)⟩
  | str z =>
    cases hw
    refine (pi_str ha).run pins s σ H R I ⟨hid, ρ, env, S, hE, hs, ?_⟩
    rw [q]
    intro ρ1 H1 e1 s1 v r fr
    simp only [Rep] at r
    exact ⟨strOf z, r, hk' ρ1 H1 e1 s1 _ .str⟩
  | _ => cases hw
theorem asInt_out {K : PySem.W.Frag} {hid ρ : List Addr} {H : Hp} {β : Type} {x : Val} {S : Sto} {f : Int → Sto → R β} {G : β → Sto → List Addr → Hp → Prop} (h : Out K hid ρ H ((asInt x S).bind f) G) : ∃ i, x = .int i ∧ Out K hid ρ H (f i S) G := by
  cases x <;> first | exact h.elim | exact ⟨_, rfl, h⟩
theorem i_rng1 {x : Str} {p : Pos} (ex : x = PySem.Str.ofString "range") (hg : Gl X x) (hm : X.mg x = none) (ha : PE X xa (tE X.K c ea)) (hp : plainE xa = true) : PI X tg (.Call (.Name x p) [xa] [] pos) (tI X.K c (.rng1 ea)) := by
  subst ex
  refine PI.imp (pi_range1 hg hm (a_cons ha a_nil hp) (star_cons hp _ _)) fun σ H R h => ?_
  obtain ⟨hid, ρ, env, S, hE, hs, h⟩ := h
  simp only [evalSrc] at h
  refine ⟨hid, ρ, env, S, hE, hs, ?_⟩
  simp only [evalEs]
  obtain ⟨v, S1, q, hk⟩ := h.bind
  rw [q]
  intro ρ1 H1 e1 s1 vs rs
  obtain ⟨i, ev, h2⟩ := asInt_out (hk ρ1 H1 e1)
  subst ev
  obtain ⟨v, ev, r⟩ := RepL.one rs
  subst ev
  cases r.int_
  unfold rangeOf at h2
  split at h2
  · rename_i hb
    refine ⟨i, rfl, hb.2.2.1, hb.2.2.2, ?_⟩
    have := h2.pure s1 (Itr 0 (i - 0).toNat) .range
    rw [Int.sub_zero] at this
    exact this
  · exact h2.elim
theorem i_rng2 {x : Str} {p : Pos} (ex : x = PySem.Str.ofString "range") (hg : Gl X x) (hm : X.mg x = none) (ha : PE X xa (tE X.K c ea)) (hp : plainE xa = true) (hb : PE X xb (tE X.K c eb)) (hp2 : plainE xb = true) : PI X tg (.Call (.Name x p) [xa, xb] [] pos) (tI X.K c (.rng2 ea eb)) := by
  subst ex
  refine PI.imp (pi_range2 hg hm (pa_cons ha (pa_cons hb pa_nil (star_cons hp2 _ _)) (star_cons hp _ _)) (by rw [star_cons hp, star_cons hp2]; rfl) (star_cons hp2 _ _)) fun σ H R h => ?_
  obtain ⟨hid, ρ, env, S, hE, hs, h⟩ := h
  simp only [evalSrc] at h
  refine tE.of hE hs h fun v S1 ρ1 H1 u e1 s1 r1 f1 h1 => ?_
  obtain ⟨i, ev, h1⟩ := asInt_out h1
  subst ev
  refine tE.of (hE.mono e1) s1 h1 fun w S2 ρ2 H2 u2 e2 s2 r2 f2 h2 => ?_
  obtain ⟨j, ev, h9⟩ := asInt_out h2
  subst ev
  cases r1.int_
  cases r2.int_
  unfold rangeOf at h9
  split at h9
  · rename_i hb
    exact ⟨i, j, rfl, hb, h9.pure s2 _ .range⟩
  · exact h9.elim
theorem i_enum {x : Str} {p tpos : Pos} {elts : List Expr} {kk : Nat} (ex : x = PySem.Str.ofString "enumerate") (hg : Gl X x) (hm : X.mg x = none) (ha : PE X xa (tE X.K c ea)) (hp : plainE xa = true) : PI X (.Tuple elts kk tpos) (.Call (.Name x p) [xa] [] pos) (tI X.K c (.enum ea)) := by
  subst ex
  refine PI.imp (pi_en hg hm (pa_cons ha pa_nil (star_cons hp _ _)) (star_cons hp _ _)) fun σ H R h => ?_
  obtain ⟨hid, ρ, env, S, hE, hs, h⟩ := h
  simp only [evalSrc] at h
  refine tE.of hE hs h fun v S1 ρ1 H1 u e1 s1 r1 f1 h1 => ?_
  obtain ⟨xs, hw, h2⟩ := h1.some
  cases v with
  | tup ys =>
    cases hw
    simp only [Rep] at r1
    obtain ⟨a, vs, q1, q2, q3⟩ := r1
    subst q1
    exact ⟨a, vs, rfl, .inr ⟨SqT.of q2, h2.pure s1 _ (.enumT q2 q3)⟩⟩
  | lst f ys =>
    cases hw
    simp only [Rep] at r1
    obtain ⟨a, vs, q1, q2, q3, q4, q5⟩ := r1
    subst q1
    exact ⟨a, vs, rfl, .inl ⟨.inl q2.rd, h2.pure s1 _ (.enumL q2.rd q3 q5)⟩⟩
  | _ => cases hw
theorem i_zip {x : Str} {p tpos : Pos} {elts : List Expr} {kk : Nat} (ex : x = PySem.Str.ofString "zip") (hg : Gl X x) (hm : X.mg x = none) (ha : PE X xa (tE X.K c ea)) (hp : plainE xa = true) (hb : PE X xb (tE X.K c eb)) (hp2 : plainE xb = true) :
    PI X (.Tuple elts kk tpos) (.Call (.Name x p) [xa, xb] [] pos) (tI X.K c (.zip ea eb)) := by
  subst ex
  refine PI.imp (RZ.pi_zipA hg hm (pa_cons ha (pa_cons hb pa_nil (star_cons hp2 _ _)) (star_cons hp _ _)) (star_cons hp _ _) (star_none _ _ _ (by simp [hp2]))) fun σ H R h => ?_
  obtain ⟨hid, ρ, env, S, hE, hs, h⟩ := h
  simp only [evalSrc] at h
  refine tE.of hE hs h fun v S1 ρ1 H1 u e1 s1 r1 f1 h1 => ?_
  refine tE.of (hE.mono e1) s1 h1 fun w S2 ρ2 H2 u2 e2 s2 r2 f2 h2 => ?_
  obtain ⟨pq, hw, h3⟩ := h2.some
  unfold twoOf at hw
  split at hw
  · rename_i ys zs
    cases hw
    have r1 := Rep.mono e2 _ _ r1
    simp only [Rep] at r1 r2
    obtain ⟨a, vs, q1, q2, q3⟩ := r1
    obtain ⟨b, ws, k1, k2, k3⟩ := r2
    subst q1 k1
    exact ⟨a, b, vs, ws, rfl, .inr ⟨SqT.of q2, SqT.of k2, h3.pure s2 _ (.zipT q2 q3 k2 k3)⟩⟩
  · rename_i f1 ys f2 zs
    cases hw
    have r1 := Rep.mono e2 _ _ r1
    simp only [Rep] at r1 r2
    obtain ⟨a, vs, q1, q2, q3, q4, q5⟩ := r1
    obtain ⟨b, ws, k1, k2, k3, k4, k5⟩ := r2
    subst q1 k1
    exact ⟨a, b, vs, ws, rfl, .inl ⟨.inl q2.rd, .inl k2.rd, h3.pure s2 _ (.zipL q2.rd q3 q5 k2.rd k3 k5)⟩⟩
  · cases hw
end
end QE

set_option Elab.async false
set_option linter.all false
set_option maxRecDepth 10000
set_option maxHeartbeats 1000000
/-! Targets; statements' readings; for and while. -/
namespace QE
open PySem PySem.Spec PyProof.Rows L2

/-! ### targets -/
mutual
def tgN : T → List Nat
  | .name i => [i]
  | .tup ts => tgNs ts
def tgNs : List T → List Nat
  | [] => []
  | t :: ts => tgN t ++ tgNs ts
end
theorem wipe_get (σ : L2.St) (j : Nat) : ∀ vs : List Nat, (L2.wipe σ vs)[j]? = if j ∈ vs then (σ[j]?).map (fun _ => none) else σ[j]?
  | [] => by simp [L2.wipe]
  | v :: vs => by
    unfold L2.wipe
    rw [List.getElem?_set, wipe_get σ j vs]
    by_cases h : v = j
    · subst h
      simp only [if_true, List.mem_cons, true_or, L2.wipe_length]
      by_cases hl : v < σ.length
      · simp [hl]
      · simp [hl, List.getElem?_eq_none (by omega : σ.length ≤ v)]
    · have : ¬ j = v := fun z => h z.symm
      simp [h, this]
theorem wipe_set {σ : L2.St} {i : Nat} {z : Option V} {vs : List Nat} (h : i ∈ vs) : L2.wipe (σ.set i z) vs = L2.wipe σ vs := by
  apply List.ext_getElem?
  intro j
  rw [wipe_get, wipe_get]
  by_cases hj : i = j
  · subst hj
    simp only [h, if_true, List.getElem?_set_self']
    cases σ[i]? <;> rfl
  · rw [List.getElem?_set_ne hj]
def tG (K : PySem.W.Frag) (tg : T) : TG := fun v σ H Q => ∃ hid ρ env S x env', ERep K hid ρ H env σ ∧ SOk K hid ρ H S ∧ Rep K hid ρ H x v ∧ bindT tg x env = some env' ∧
  ∀ σ', ERep K hid ρ H env' σ' → (∀ vs, (∀ i ∈ tgN tg, i ∈ vs) → L2.wipe σ' vs = L2.wipe σ vs) → Q σ' H
def tGs (K : PySem.W.Frag) (ts : List T) : TGs := fun vs σ H Q => ∃ hid ρ env S xs env', ERep K hid ρ H env σ ∧ SOk K hid ρ H S ∧ RepL K hid ρ H xs vs ∧ bindTs ts xs env = some env' ∧
  ∀ σ', ERep K hid ρ H env' σ' → (∀ vs, (∀ i ∈ tgNs ts, i ∈ vs) → L2.wipe σ' vs = L2.wipe σ vs) → Q σ' H
theorem PGs.imp {X : Cx} {e : List Expr} {t t' : TGs} (h : PGs X e t) (k : ∀ v σ H Q, t' v σ H Q → t v σ H Q) : PGs X e t' := ⟨fun pins s σ H v u Q I r q => h.run pins s σ H v u Q I r (k v σ H Q q)⟩
section
variable {X : Cx} {pos : Pos}
theorem g_name {i : Nat} {x : Str} (hN : X.N.Nodup) (hi : X.N[i]? = some x) (hx : Loc X.env.scope x) (hf : X.fn x = true ∨ X.env.scope.names.lookup x = some .local) : PG X (.Name x pos) (tG X.K (.name i)) := by
  refine PG.imp (pg_name hN hi hx hf) fun v σ H Q h => ?_
  obtain ⟨hid, ρ, env, S, y, env', hE, hs, r, b, q⟩ := h
  simp only [bindT, Option.some.injEq] at b
  subst b
  exact q _ (hE.set i (st_settle y) r.settle) fun vs hm => wipe_set (hm i (by simp [tgN]))
def plainG : Expr → Bool
  | .Starred _ _ => false
  | _ => true
theorem each_cons {e : Expr} (h : plainG e = true) (es : List Expr) (env : PySem.Env) : assignEach (e :: es) env = (false, assign e env) :: assignEach es env := by
  cases e <;> first | rfl | cases h
theorem each_len (env : PySem.Env) : ∀ es : List Expr, es.all plainG = true → (assignEach es env).length = es.length ∧ (assignEach es env).findIdx? (·.1) = none
  | [], _ => ⟨rfl, rfl⟩
  | e :: es, h => by
    simp only [List.all_cons, Bool.and_eq_true] at h
    rw [each_cons h.1]
    obtain ⟨h1, h2⟩ := each_len env es h.2
    refine ⟨by simp [h1], ?_⟩
    simp [List.findIdx?_cons, h2]
theorem gs_nil : PGs X [] (tGs X.K []) := by
  refine PGs.imp pgs_nil fun v σ H Q h => ?_
  obtain ⟨hid, ρ, env, S, xs, env', hE, hs, r, b, q⟩ := h
  cases xs with
  | nil =>
    simp only [bindTs, Option.some.injEq] at b
    subst b
    simp only [RepL] at r
    exact ⟨r, q σ hE fun _ _ => rfl⟩
  | cons x xs => simp [bindTs] at b
theorem gs_cons {e : Expr} {es : List Expr} {t : T} {ts : List T} (h1 : PG X e (tG X.K t)) (h2 : PGs X es (tGs X.K ts)) (hp : plainG e = true) : PGs X (e :: es) (tGs X.K (t :: ts)) := by
  refine PGs.imp (pgs_cons h1 h2 (by rw [each_cons hp]; rfl)) fun v σ H Q h => ?_
  obtain ⟨hid, ρ, env, S, xs, env', hE, hs, r, b, q⟩ := h
  cases xs with
  | nil => simp [bindTs] at b
  | cons x xs =>
    simp only [RepL] at r
    obtain ⟨v1, vr, ev, rx, rr⟩ := r
    simp only [bindTs] at b
    split at b
    · rename_i env1 hb
      refine ⟨v1, vr, ev, hid, ρ, env, S, x, env1, hE, hs, rx.2, hb, fun σ1 hE1 w1 => ?_⟩
      refine ⟨hid, ρ, env1, S, xs, env', hE1, hs, rr, b, fun σ2 hE2 w2 => q σ2 hE2 fun vs hm => ?_⟩
      simp only [tgNs, List.mem_append] at hm
      rw [w2 vs fun i hi => hm i (.inr hi), w1 vs fun i hi => hm i (.inl hi)]
    · cases b
theorem bindTs_len : ∀ {ts : List T} {xs : List Val} {env env' : Env}, bindTs ts xs env = some env' → xs.length = ts.length
  | [], [], _, _, _ => rfl
  | [], _ :: _, _, _, h => by simp [bindTs] at h
  | _ :: _, [], _, _, h => by simp [bindTs] at h
  | t :: ts, x :: xs, env, env', h => by
    simp only [bindTs] at h
    split at h
    · simp only [List.length_cons, bindTs_len h]
    · cases h
theorem g_tup {es : List Expr} {ts : List T} {k : Nat} (hc : X.calm = true) (h : PGs X es (tGs X.K ts)) (hp : es.all plainG = true) (hl : es.length = ts.length) : PG X (.Tuple es k pos) (tG X.K (.tup ts)) := by
  obtain ⟨h1, h2⟩ := each_len X.env es hp
  refine PG.imp (pg_tup (n := es.length) hc h h1 h2) fun v σ H Q hh => ?_
  obtain ⟨hid, ρ, env, S, x, env', hE, hs, r, b, q⟩ := hh
  cases x with
  | tup xs =>
    simp only [Rep] at r
    obtain ⟨a, vs, ev, ha, rl⟩ := r
    simp only [bindT] at b
    refine ⟨a, vs, ev, SqT.of ha, ?_, hid, ρ, env, S, xs, env', hE, hs, rl, b, q⟩
    rw [rl.length, hl]
    exact bindTs_len b
  | _ => simp [bindT] at b

/-! ### statements' readings -/
def Fin (K : PySem.W.Frag) (hid : List Addr) (H : Hp) (D : Ends) : Fl × Env → Sto → List Addr → Hp → Prop := fun f S' ρ' H' => match f.1 with
  | .nx => ∀ σ', ERep K hid ρ' H' f.2 σ' → D.nx σ' H'
  | .bk => ∀ σ', ERep K hid ρ' H' f.2 σ' → D.bk σ' H'
  | .ct => ∀ σ', ERep K hid ρ' H' f.2 σ' → D.ct σ' H'
  | .rt v => ∀ u, Rep K hid ρ' H' v u → Fresh K hid ρ' H' S' H v u → D.rt u H'
theorem Fin.anti {K : PySem.W.Frag} {hid ρ ρ1 ρ2 : List Addr} {H H1 H2 : Hp} {D : Ends} {f : Fl × Env} {S : Sto} (e : Ext ρ H ρ1 H1) (h : Fin K hid H D f S ρ2 H2) : Fin K hid H1 D f S ρ2 H2 := by
  unfold Fin at h ⊢
  split at h
  · exact h
  · exact h
  · exact h
  · exact fun u r fr => h u r (fr.anti e)
def tS (K : PySem.W.Frag) (c : Ctx) (st : Stm) : TS := fun D σ H => ∃ hid ρ env S, ERep K hid ρ H env σ ∧ SOk K hid ρ H S ∧ Out K hid ρ H (execS c st env S) (Fin K hid H D)
def tSs (K : PySem.W.Frag) (c : Ctx) (st : List Stm) : TS := fun D σ H => ∃ hid ρ env S, ERep K hid ρ H env σ ∧ SOk K hid ρ H S ∧ Out K hid ρ H (execSs c st env S) (Fin K hid H D)
variable {c : Ctx} {xt : Stmt} {xs : List Stmt} {st : Stm} {ss : List Stm}
theorem ss_nil : PSs X [] (tSs X.K c []) := by
  refine PSs.imp pss_nil fun D σ H h => ?_
  obtain ⟨hid, ρ, env, S, hE, hs, h⟩ := h
  simp only [execSs] at h
  exact h.pure hs σ hE
theorem ss_cons (h1 : PS X xt (tS X.K c st)) (h2 : PSs X xs (tSs X.K c ss)) : PSs X (xt :: xs) (tSs X.K c (st :: ss)) := by
  refine PSs.imp (pss_cons h1 h2) fun D σ H h => ?_
  obtain ⟨hid, ρ, env, S, hE, hs, h⟩ := h
  simp only [execSs] at h
  obtain ⟨f, S1, q, hk⟩ := h.bind
  refine ⟨hid, ρ, env, S, hE, hs, ?_⟩
  rw [q]
  intro ρ1 H1 e1 s1
  have hk := hk ρ1 H1 e1
  obtain ⟨f, e⟩ := f
  cases f with
  | nx =>
    intro σ1 hE1
    exact ⟨hid, ρ1, e, S1, hE1, s1, hk.mono fun z S2 ρ2 H2 e2 q => Fin.anti e1 q⟩
  | bk => exact hk.pure s1
  | ct => exact hk.pure s1
  | rt v => exact hk.pure s1

/-! ### for, while -/
def LoopP (K : PySem.W.Frag) (hid ρ : List Addr) (H : Hp) (D : Ends) (r : Env → Sto → R (Fl × Env)) : L2.St → Hp → Prop := fun σ H2 => ∃ ρ2 env2 S2, ERep K hid ρ2 H2 env2 σ ∧ SOk K hid ρ2 H2 S2 ∧ Ext ρ H ρ2 H2 ∧
  Out K hid ρ2 H2 (r env2 S2) (Fin K hid H2 D)
theorem for_read {K : PySem.W.Frag} {hid ρ : List Addr} {H : Hp} {D : Ends} {ys : List Val} {J : It} {tg : T} {body : List Stm} {σ : L2.St} {env : Env} {S : Sto} (hE : ERep K hid ρ H env σ) (hs : SOk K hid ρ H S)
    (w : WalkOk K hid ρ H ys J) (h : Out K hid ρ H (forLoop tg (execSs c body) ys env S) (Fin K hid H D)) :
    ∃ W : Nat → Nat → L2.St → Hp → Prop, (∃ m, W 0 m σ H) ∧ ∀ i m σ H, W i m σ H →
      (J.stop i H ∧ D.nx σ H) ∨ (J.go i H ∧ ∃ N : L2.St → Hp → Prop, (∀ σ' H', N σ' H' → ∃ m', m' < m ∧ W (i + 1) m' σ' H') ∧ ∀ x H', J.yld i H x H' → tG K tg x σ H' fun σ2 H2 => tSs K c body { D with nx := N, ct := N, bk := D.nx } σ2 H2) := by
  refine for_it w.walk (fun i => LoopP K hid ρ H D (forLoop tg (execSs c body) (ys.drop i))) ⟨ρ, env, S, hE, hs, Ext.refl _ _, by simpa using h⟩ (fun i σ H2 _ p => ?_) (fun i v σ H2 H3 hi p y => ?_) fun σ H2 p => ?_
  · obtain ⟨ρ2, _, _, _, _, e, _⟩ := p
    exact ⟨ρ2, e⟩
  · obtain ⟨ρ2, env2, S2, hE2, hs2, e2, h2⟩ := p
    obtain ⟨x, hx, e3, hs3, st, rx⟩ := y ρ2 S2 e2 hs2
    have hd : ys.drop i = x :: ys.drop (i + 1) := by
      rw [List.drop_eq_getElem_cons hi]
      rw [List.getElem?_eq_getElem hi] at hx
      cases hx
      rfl
    rw [hd, forLoop] at h2
    cases hb : bindT tg x env2 with
    | none => rw [hb] at h2; exact h2.elim
    | some env' =>
      rw [hb] at h2
      refine ⟨hid, ρ2, env2, S2, x, env', hE2.mono e3, hs3, rx, hb, fun σ' hE' _ => ⟨hid, ρ2, env', S2, hE', hs3, ?_⟩⟩
      obtain ⟨f, S5, q, hk⟩ := (h2.ext e3).bind
      rw [q]
      intro ρ5 H5 e5 s5
      have hk := hk ρ5 H5 e5
      obtain ⟨f, e⟩ := f
      have again : ∀ σ', ERep K hid ρ5 H5 e σ' → Out K hid ρ5 H5 (forLoop tg (execSs c body) (ys.drop (i + 1)) e S5) (Fin K hid H2 D) → LoopP K hid ρ H D (forLoop tg (execSs c body) (ys.drop (i + 1))) σ' H5 := fun σ' hE5 hk =>
        ⟨ρ5, e, S5, hE5, s5, (e2.trans e3).trans e5, hk.mono fun z S6 ρ6 H6 e6 q => Fin.anti (e3.trans e5) q⟩
      cases f with
      | nx => exact fun σ' hE5 => again σ' hE5 hk
      | ct => exact fun σ' hE5 => again σ' hE5 hk
      | bk => exact hk.pure s5
      | rt v => exact fun u r fr => hk.pure s5 u r (fr.anti e3)
  · obtain ⟨ρ2, env2, S2, hE2, hs2, e2, h2⟩ := p
    rw [List.drop_length, forLoop] at h2
    exact h2.pure hs2 σ hE2
theorem s_for {tg iter : Expr} {body : List Stmt} {src : Src} {g : T} {bs : List Stm} (hp : PassesOwn (model X.prog X.w) X.A X.env X.xe) (hc : X.calm = true) (hi : PI X tg iter (tI X.K c src)) (hg : PG X tg (tG X.K g)) (hb : PSs X body (tSs X.K c bs)) (hf : noSetE iter = true) :
    PS X (.For tg iter body [] pos) (tS X.K c (.for_ g src bs)) := by
  refine PS.imp (ps_for hp hc hi hg hb (no_fold hf X.env)) fun D σ H h => ?_
  obtain ⟨hid, ρ, env, S, hE, hs, h⟩ := h
  simp only [execS] at h
  obtain ⟨ys, S1, q, hk⟩ := h.bind
  refine ⟨hid, ρ, env, S, hE, hs, ?_⟩
  rw [q]
  intro ρ1 H1 e1 s1 J w
  exact for_read (hE.mono e1) s1 w ((hk ρ1 H1 e1).mono fun z S2 ρ2 H2 e2 q => Fin.anti e1 q)
theorem s_while {xc : Expr} {body : List Stmt} {ec : E} {bs : List Stm} (hp : PassesOwn (model X.prog X.w) X.A X.env X.xe) (ht : PT X xc (tT X.K c ec)) (hb : PSs X body (tSs X.K c bs)) : PS X (.While xc body [] pos) (tS X.K c (.while_ ec bs)) := by
  refine PS.imp (ps_while hp ht hb) fun D σ H h => ?_
  obtain ⟨hid, ρ, env, S, hE, hs, h⟩ := h
  simp only [execS] at h
  refine ⟨fun m => LoopP X.K hid ρ H D (whileLoop (fun e S => (evalE c ec e S).bind asBl) (execSs c bs) m), ⟨c.fuel, ρ, env, S, hE, hs, Ext.refl _ _, h⟩, ?_⟩
  rintro m σ2 H2 ⟨ρ2, env2, S2, hE2, hs2, e2, h2⟩
  cases m with
  | zero => exact h2.elim
  | succ m =>
    rw [whileLoop] at h2
    rw [R.bind_assoc] at h2
    refine tT.of hE2 hs2 h2 fun b S3 ρ3 H3 e3 s3 h3 => ?_
    cases b with
    | false => exact h3.pure s3 σ2 (hE2.mono e3)
    | true =>
      refine ⟨LoopP X.K hid ρ H D (whileLoop (fun e S => (evalE c ec e S).bind asBl) (execSs c bs) m), fun σ' H' p => ⟨m, Nat.lt_succ_self m, p⟩, hid, ρ3, env2, S3, hE2.mono e3, s3, ?_⟩
      obtain ⟨f, S5, q, hk⟩ := h3.bind
      rw [q]
      intro ρ5 H5 e5 s5
      have hk := hk ρ5 H5 e5
      obtain ⟨f, e⟩ := f
      have again : ∀ σ', ERep X.K hid ρ5 H5 e σ' → Out X.K hid ρ5 H5 (whileLoop (fun e S => (evalE c ec e S).bind asBl) (execSs c bs) m e S5) (Fin X.K hid H2 D) → LoopP X.K hid ρ H D (whileLoop (fun e S => (evalE c ec e S).bind asBl) (execSs c bs) m) σ' H5 := fun σ' hE5 hk =>
        ⟨ρ5, e, S5, hE5, s5, (e2.trans e3).trans e5, hk.mono fun z S6 ρ6 H6 e6 q => Fin.anti (e3.trans e5) q⟩
      cases f with
      | nx => exact fun σ' hE5 => again σ' hE5 hk
      | ct => exact fun σ' hE5 => again σ' hE5 hk
      | bk => exact hk.pure s5
      | rt v => exact fun u r fr => hk.pure s5 u r (fr.anti e3)
end
end QE

set_option Elab.async false
set_option linter.all false
set_option maxRecDepth 10000
set_option maxHeartbeats 1000000
/-! List comprehensions. -/
namespace QE
open PySem PySem.Spec PyProof.Rows L2
/-! ### from one heap to another -/
structure RepTo (hid ρ : List Addr) (H : Hp) (hid' ρ' : List Addr) (H' : Hp) : Prop where
  tups : ∀ a xs, H a = some (.tup xs) → H' a = some (.tup xs)
  objs : ∀ f a u, RdF f H a u → a ∉ ρ → a ∉ hid → RdF f H' a u ∧ a ∉ ρ' ∧ a ∉ hid'
  cell : ∀ (n : Nat) (a : Addr), ρ[n]? = some a → ρ'[n]? = some a
section
variable {K : PySem.W.Frag} {hid ρ hid' ρ' : List Addr} {H H' : Hp}
mutual
theorem Rep.to (m : RepTo hid ρ H hid' ρ' H') : ∀ (x : Val) (v : V), Rep K hid ρ H x v → Rep K hid' ρ' H' x v
  | .non, v, h => by simp only [Rep] at h ⊢; exact h
  | .bl b, v, h => by simp only [Rep] at h ⊢; exact h
  | .int i, v, h => by simp only [Rep] at h ⊢; exact h
  | .str s, v, h => by simp only [Rep] at h ⊢; exact h
  | .tup xs, v, h => by
    simp only [Rep] at h ⊢
    obtain ⟨a, vs, h1, h2, h3⟩ := h
    exact ⟨a, vs, h1, m.tups _ _ h2, RepL.to m xs vs h3⟩
  | .lst f xs, v, h => by
    simp only [Rep] at h ⊢
    obtain ⟨a, vs, h1, h2, h3, h4, h5⟩ := h
    obtain ⟨k1, k2, k3⟩ := m.objs _ _ _ h2 h3 h4
    exact ⟨a, vs, h1, k1, k2, k3, RepL.to m xs vs h5⟩
  | .dic f true kvs, v, h => by
    simp only [Rep] at h ⊢
    obtain ⟨a, vs, h1, h2, h3, h4, h5⟩ := h
    obtain ⟨k1, k2, k3⟩ := m.objs true _ _ h2 h3 h4
    exact ⟨a, vs, h1, k1, k2, k3, RepT.to m kvs vs h5⟩
  | .dic f false kvs, v, h => by
    simp only [Rep] at h ⊢
    obtain ⟨a, vs, h1, h2, h3, h4, h5⟩ := h
    obtain ⟨k1, k2, k3⟩ := m.objs true _ _ h2 h3 h4
    exact ⟨a, vs, h1, k1, k2, k3, RepK.to m kvs vs h5⟩
  | .ref n, v, h => by
    simp only [Rep] at h ⊢
    obtain ⟨a, h1, h2⟩ := h
    exact ⟨a, m.cell _ _ h1, h2⟩
  | .kls ns, v, h => by simp only [Rep] at h ⊢; exact h
theorem RepL.to (m : RepTo hid ρ H hid' ρ' H') : ∀ (xs : List Val) (vs : List V), RepL K hid ρ H xs vs → RepL K hid' ρ' H' xs vs
  | [], vs, h => by simp only [RepL] at h ⊢; exact h
  | x :: xs, vs, h => by
    simp only [RepL] at h ⊢
    obtain ⟨v, r, h1, h2, h3⟩ := h
    exact ⟨v, r, h1, ⟨h2.1, Rep.to m x v h2.2⟩, RepL.to m xs r h3⟩
theorem RepK.to (m : RepTo hid ρ H hid' ρ' H') : ∀ (xs : List (Val × Val)) (ws : List (L2.Key × V)), RepK K hid ρ H xs ws → RepK K hid' ρ' H' xs ws
  | [], vs, h => by simp only [RepK] at h ⊢; exact h
  | (k, x) :: xs, vs, h => by
    simp only [RepK] at h ⊢
    obtain ⟨v, r, h1, h4, h2, h3⟩ := h
    exact ⟨v, r, h1, h4, ⟨h2.1, Rep.to m x v h2.2⟩, RepK.to m xs r h3⟩
theorem RepT.to (m : RepTo hid ρ H hid' ρ' H') : ∀ (xs : List (Val × Val)) (ws : List (List L2.Key × V)), RepT K hid ρ H xs ws → RepT K hid' ρ' H' xs ws
  | [], vs, h => by simp only [RepT] at h ⊢; exact h
  | (k, x) :: xs, vs, h => by
    simp only [RepT] at h ⊢
    obtain ⟨v, r, h1, h4, h2, h3⟩ := h
    exact ⟨v, r, h1, h4, ⟨h2.1, Rep.to m x v h2.2⟩, RepT.to m xs r h3⟩
end
theorem ObRep.to (m : RepTo hid ρ H hid' ρ' H') {a : Addr} (e : H' a = H a) : ∀ {o : Ob}, ObRep K hid ρ H a o → ObRep K hid' ρ' H' a o
  | .lst xs, ⟨vs, h1, h2⟩ => ⟨vs, e.trans h1, RepL.to m xs vs h2⟩
  | .dic true xs, ⟨vs, h1, h2⟩ => ⟨vs, e.trans h1, RepT.to m xs vs h2⟩
  | .dic false xs, ⟨vs, h1, h2⟩ => ⟨vs, e.trans h1, RepK.to m xs vs h2⟩
/-- the hidden object is written -/
theorem to_over {D : Addr} {u o : HO} (hD : H D = some u) (hu : ∀ xs, u ≠ .tup xs) : RepTo (D :: hid) ρ H (D :: hid) ρ (upd H D o) :=
  ⟨fun a xs h => by rw [upd_ne (fun z => by subst z; rw [hD] at h; cases h; exact hu xs rfl)]; exact h,
   fun f a w h h1 h2 => by
    have ne : a ≠ D := fun z => h2 (by simp [z])
    refine ⟨?_, h1, h2⟩
    cases f with
    | true => show upd H D o a = _; rw [upd_ne ne]; exact h
    | false =>
      rcases h with h | ⟨w', h⟩
      · exact .inl (by rw [upd_ne ne]; exact h)
      · exact .inr ⟨w', by rw [upd_ne ne]; exact h⟩,
   fun n a h => h⟩
theorem SOk.over {D : Addr} {u o : HO} {S : Sto} (s : SOk K (D :: hid) ρ H S) (hD : H D = some u) (hu : ∀ xs, u ≠ .tup xs) : SOk K (D :: hid) ρ (upd H D o) S := by
  refine ⟨s.len, s.nd, s.apart, fun a ha => ?_, fun n ob q => ?_⟩
  · by_cases e : a = D
    · subst e; exact ⟨o, upd_same⟩
    · rw [upd_ne e]; exact s.hidd a ha
  · obtain ⟨a, h1, h2⟩ := s.ob n ob q
    exact ⟨a, h1, h2.to (to_over hD hu) (upd_ne fun z => s.apart a (List.mem_of_getElem? h1) (by simp [z]))⟩
/-- the hidden object becomes a cell -/
theorem to_take {D : Addr} : RepTo (D :: hid) ρ H hid (ρ ++ [D]) H :=
  ⟨fun a xs h => h, fun f a w h h1 h2 => ⟨h, fun z => by
    rcases List.mem_append.mp z with z | z
    · exact h1 z
    · exact h2 (by simp [List.mem_singleton.mp z]), fun z => h2 (List.mem_cons_of_mem _ z)⟩,
   fun n a h => by rw [List.getElem?_append_left (List.getElem?_eq_some_iff.mp h).1]; exact h⟩
theorem SOk.take {D : Addr} {S : Sto} {ob : Ob} (s : SOk K (D :: hid) ρ H S) (hd : D ∉ hid) (r : ObRep K (D :: hid) ρ H D ob) : SOk K hid (ρ ++ [D]) H (S ++ [ob]) := by
  have nd : D ∉ ρ := fun z => s.apart D z (by simp)
  refine ⟨by simp [s.len], ?_, ?_, fun a ha => s.hidd a (List.mem_cons_of_mem _ ha), fun n ob' q => ?_⟩
  · rw [List.nodup_append]
    exact ⟨s.nd, by simp, fun x hx y hy => by
      rw [List.mem_singleton] at hy
      subst hy
      exact fun z => nd (z ▸ hx)⟩
  · intro b hb
    rcases List.mem_append.mp hb with hb | hb
    · exact fun z => s.apart b hb (List.mem_cons_of_mem _ z)
    · rw [List.mem_singleton.mp hb]; exact hd
  · by_cases hn : n < S.length
    · rw [List.getElem?_append_left hn] at q
      obtain ⟨b, hb, rb⟩ := s.ob n ob' q
      exact ⟨b, by rw [List.getElem?_append_left (by rw [s.len]; exact hn)]; exact hb, rb.to to_take rfl⟩
    · have hn2 : n = S.length := by
        have := (List.getElem?_eq_some_iff.mp q).1
        simp at this
        omega
      subst hn2
      rw [List.getElem?_append_right (Nat.le_refl _)] at q
      simp at q
      subst q
      exact ⟨D, by rw [← s.len, List.getElem?_append_right (Nat.le_refl _)]; simp, r.to to_take rfl⟩
theorem Ext.over {D : Addr} {o : HO} (e : Ext ρ H ρ' H') (hd : H D = none) : Ext ρ H ρ' (upd H' D o) := by
  have ne : ∀ b u, H b = some u → b ≠ D := fun b u h z => by rw [z, hd] at h; cases h
  exact ⟨e.more, fun b u h hb => by rw [upd_ne (ne b u h)]; exact e.keep b u h hb, fun b u h => by rw [upd_ne (ne b u h)]; exact e.there b u h,
    fun b xs h => by rw [upd_ne (ne b _ h)]; exact e.tups b xs h, fun b u w h => by rw [upd_ne (ne b _ h)]; exact e.frzs b u w h⟩
theorem ERep.hide0 {D : Addr} {env : Env} {σ : L2.St} (h : ERep K hid ρ H env σ) (hd : H D = none) : ERep K (D :: hid) ρ H env σ := by
  refine ⟨h.len, fun i x q => ?_⟩
  obtain ⟨v, a, st, b⟩ := h.at_ i x q
  exact ⟨v, a, st, Rep.hide hd x v b⟩
theorem WalkOk.hide0 {D : Addr} {xs : List Val} {J : It} (h : WalkOk K hid ρ H xs J) (hd : H D = none) : WalkOk K (D :: hid) ρ H xs J := by
  have rl : ∀ {xs : List Val} {vs : List V}, RepL K hid ρ H xs vs → RepL K (D :: hid) ρ H xs vs := fun {xs vs} r => RepL.hide hd xs vs r
  cases h with
  | list h ha r => exact .list h ha (rl r)
  | tup h r => exact .tup h (rl r)
  | range => exact .range
  | str => exact .str
  | enumL h ha r => exact .enumL h ha (rl r)
  | enumT h r => exact .enumT h (rl r)
  | zipL h ha r h' hb r' => exact .zipL h ha (rl r) h' hb (rl r')
  | zipT h r h' r' => exact .zipT h (rl r) h' (rl r')
theorem wipe_wipe (σ : L2.St) (vs : List Nat) : L2.wipe (L2.wipe σ vs) vs = L2.wipe σ vs := by
  apply List.ext_getElem?
  intro j
  rw [wipe_get, wipe_get]
  by_cases h : j ∈ vs
  · simp only [h, if_true]
    cases σ[j]? <;> rfl
  · simp only [h, if_false]
end

/-! ### tests of a clause -/
section
variable {X : Cx} {c : Ctx} {pos : Pos} {xa : Expr} {ea : E}
theorem ifs_nil : PTs X [] (tBs (evalAnd c) X.K []) := by
  refine PTs.imp pts_nil fun σ H Q h => ?_
  obtain ⟨hid, ρ, env, S, hE, hs, h⟩ := h
  simp only [evalAnd] at h
  exact h.pure hs
theorem ifs_one (h : PT X xa (tT X.K c ea)) : PTs X [xa] (tBs (evalAnd c) X.K [ea]) := by
  refine PTs.imp (pts_one h) fun σ H Q h => ?_
  obtain ⟨hid, ρ, env, S, hE, hs, h⟩ := h
  simp only [evalAnd] at h
  refine tT.of hE hs h fun b S1 ρ1 H1 e1 s1 h1 => ?_
  cases b with
  | true => exact h1.pure s1
  | false => exact h1.pure s1

theorem calm_ok {α : Type} {r : R α} {a : α} {S : Sto} (h : r.calm = .ok a S) : r = .ok a S := by
  cases r <;> simp only [R.calm] at h <;> cases h
  rfl
theorem bind_ok {α β : Type} {r : R α} {f : α → Sto → R β} {b : β} {S : Sto} (h : r.bind f = .ok b S) : ∃ a S1, r = .ok a S1 ∧ f a S1 = .ok b S := by
  cases r with
  | ok a S1 => exact ⟨a, S1, rfl, h⟩
  | exc _ _ _ => cases h
  | bad => cases h
theorem lc_read {own : List Nat} {tg : T} {src : Src} {ifs : List E} {elt : E} (hown : ∀ i ∈ tgN tg, i ∈ own) {σ : L2.St} {H : Hp} {Q : VK} (h : tE X.K c (.comp own tg src ifs elt) σ H Q) :
    tLc (tI X.K c src) (tG X.K tg) (tBs (evalAnd c) X.K ifs) (tE X.K c elt) own σ H Q := by
  obtain ⟨hid, ρ, env, S, hE, hs, h⟩ := h
  simp only [evalE] at h
  obtain ⟨xs, S1, q, hk⟩ := h.bind
  refine ⟨hid, ρ, env, S, hE, hs, ?_⟩
  rw [q]
  intro ρ1 H1 e1 s1 J w D hD
  obtain ⟨ys, S', q2, hk2⟩ := (hk ρ1 H1 e1).bind
  have q2 := calm_ok q2
  have hlim : ys.length ≤ lim := by
    have := hk2 ρ1 H1 (Ext.refl _ _)
    split at this
    · assumption
    · exact this.elim
  refine lc_it (w.hide0 hD).walk (fun i H2 => ∃ ρ2 S2 acc accv ys2, H2 D = some (.lst accv) ∧ RepL X.K (D :: hid) ρ2 H2 acc accv ∧ SOk X.K (D :: hid) ρ2 H2 S2 ∧ Ext ρ1 H1 ρ2 H2 ∧
    compLoop tg (evalAnd c ifs) (evalE c elt) (QE.wipe env own) (xs.drop i) S2 = .ok ys2 S' ∧ acc ++ ys2 = ys) ⟨ρ1, S1, [], [], ys, upd_same, .nil, s1.hide hD, Ext.new hD, by simpa using q2, rfl⟩
    (fun i H2 _ p => ?_) (fun i v H2 H3 hi p y => ?_) fun H2 p => ?_
  · obtain ⟨ρ2, _, _, _, _, _, _, _, e, _⟩ := p
    exact ⟨ρ2, e⟩
  · obtain ⟨ρ2, S2, acc, accv, ys2, hD2, racc, hs2, e2, hcl, hys⟩ := p
    obtain ⟨x, hx, e3, hs3, st, rx⟩ := y ρ2 S2 e2 hs2
    have hd : xs.drop i = x :: xs.drop (i + 1) := by
      rw [List.drop_eq_getElem_cons hi]
      rw [List.getElem?_eq_getElem hi] at hx
      cases hx
      rfl
    rw [hd, compLoop] at hcl
    cases hb : bindT tg x (QE.wipe env own) with
    | none => rw [hb] at hcl; cases hcl
    | some env' =>
      rw [hb] at hcl
      obtain ⟨b, S3, qt, hcl⟩ := bind_ok hcl
      have dn : D ∉ ρ2 := fun z => hs2.apart D z (by simp)
      have hE3 : ERep X.K (D :: hid) ρ2 H3 (QE.wipe env own) (L2.wipe σ own) := ((((hE.mono e1).hide0 hD).mono e2).mono e3).wipe own
      refine ⟨D :: hid, ρ2, QE.wipe env own, S2, x, env', hE3, hs3, rx, hb, fun σ' hE' hw => ⟨by rw [hw own hown, wipe_wipe], D :: hid, ρ2, env', S2, hE', hs3, ?_⟩⟩
      rw [qt]
      intro ρ5 H5 e5 s5
      have dn5 : D ∉ ρ5 := fun z => s5.apart D z (by simp)
      have hD5 : H5 D = some (.lst accv) := e5.keep _ _ (e3.keep _ _ hD2 dn) dn
      cases b with
      | false =>
        simp only [Bool.false_eq_true, if_false] at hcl ⊢
        exact ⟨ρ5, S3, acc, accv, ys2, hD5, RepL.mono (e3.trans e5) _ _ racc, s5, (e2.trans e3).trans e5, hcl, hys⟩
      | true =>
        simp only [if_true] at hcl ⊢
        obtain ⟨z, S4, qe, hcl⟩ := bind_ok hcl
        obtain ⟨ys3, S6, ql, hcl⟩ := bind_ok hcl
        cases hcl
        refine ⟨D :: hid, ρ5, env', S3, hE'.mono e5, s5, ?_⟩
        rw [qe]
        intro ρ6 H6 e6 s6 zv rz frz
        have hD6 : H6 D = some (.lst accv) := e6.keep _ _ hD5 dn5
        have hl : accv.length < sizeLine := by
          rw [racc.length, ← lim_eq]
          have := congrArg List.length hys
          rw [List.length_append, List.length_cons] at this
          omega
        have rall : RepL X.K (D :: hid) ρ6 H6 (acc ++ [z.settle]) (accv ++ [zv]) := (RepL.mono ((e3.trans e5).trans e6) _ _ racc).app (.cons ⟨st_settle z, rz.settle⟩ .nil)
        refine ⟨accv, hD6, hl, ρ6, S4, acc ++ [z.settle], accv ++ [zv], ys3, upd_same, RepL.to (to_over hD6 (fun xs => by simp)) _ _ rall, s6.over hD6 (fun xs => by simp), (((e2.trans e3).trans e5).trans e6).over hD, ql, ?_⟩
        rw [List.append_assoc]
        exact hys
  · obtain ⟨ρ2, S2, acc, accv, ys2, hD2, racc, hs2, e2, hcl, hys⟩ := p
    rw [List.drop_length, compLoop] at hcl
    cases hcl
    rw [List.append_nil] at hys
    subst hys
    have h9 := hk2 ρ2 H2 e2
    rw [if_pos hlim] at h9
    have dn : D ∉ ρ2 := fun z => hs2.apart D z (by simp)
    have dh : D ∉ hid := s1.new2 hD
    refine h9.pure hs2.seen (.ref D) ?_ ⟨D, rfl, e1.free hD, hs2.take dh ⟨accv, hD2, racc⟩⟩
    simp only [Rep]
    exact ⟨D, accv, rfl, hD2, dn, dh, RepL.seen _ _ racc⟩
/-- as a value -/
theorem s_comp {xe tg iter : Expr} {xifs : List Expr} {scope : Scope} {own : List (Str × Nat)} {g : T} {src : Src} {ifs : List E} {elt : E} (hc : X.calm = true) (hN : X.N.Nodup) (hi : PI X tg iter (tI X.K c src)) (ok : BlkOk X.N X.env.scope scope own)
    (hg : ∀ (s : Shared) (H : Hp) (C : Addr) (cl : List (Str × Addr)) (fp : List Addr), PG (X.blk s H scope (compEnvC scope cl C X.env) fp) tg (tG X.K g))
    (ht : ∀ (s : Shared) (H : Hp) (C : Addr) (cl : List (Str × Addr)) (fp : List Addr), PTs (X.blk s H scope (compEnvC scope cl C X.env) fp) xifs (tBs (evalAnd c) X.K ifs))
    (he : ∀ (s : Shared) (H : Hp) (C : Addr) (cl : List (Str × Addr)) (fp : List Addr), PE (X.blk s H scope (compEnvC scope cl C X.env) fp) xe (tE X.K c elt)) (hf : noSetE iter = true) (hown : ∀ i ∈ tgN g, i ∈ own.map (·.2)) :
    PE X (.ListComp xe [⟨tg, iter, xifs, 0⟩] scope pos) (tE X.K c (.comp (own.map (·.2)) g src ifs elt)) :=
  PE.imp (pe_lc hc hN hi ok hg ht he (no_fold hf X.env)) fun σ H Q h => lc_read hown h
/-- name = value, by the evaluator -/
theorem set_read {i : Nat} {e : E} {D : Ends} {σ : L2.St} {H : Hp} (h : tS X.K c (.asg (.name i) e) D σ H) : tE X.K c e σ H fun x H1 => gName i x σ H1 D.nx := by
  obtain ⟨hid, ρ, env, S, hE, hs, h⟩ := h
  simp only [execS] at h
  refine tE.of hE hs h fun v S1 ρ1 H1 u e1 s1 r1 f1 h1 => ?_
  simp only [bindT, R.of, R.bind] at h1
  exact h1.pure s1 _ ((hE.mono e1).set i (st_settle v) r1.settle)
/-- name = [..] on one line, the name a local -/
theorem s_setComp {i : Nat} {y : Str} {py spos : Pos} {xe tg iter : Expr} {xifs : List Expr} {scope : Scope} {own : List (Str × Nat)} {g : T} {src : Src} {ifs : List E} {elt e' : E} (rd : ∀ σ H Q, tE X.K c e' σ H Q → tE X.K c (.comp (own.map (·.2)) g src ifs elt) σ H Q)
    (hc : X.calm = true) (hN : X.N.Nodup) (hy : X.N[i]? = some y) (hyl : X.env.scope.names.lookup y = some .local)
    (hsw : swapsWith (.ListComp xe [⟨tg, iter, xifs, 0⟩] scope pos) (some (.Name y py)) spos.line X.env = pure true) (hi : PI X tg iter (tI X.K c src)) (ok : BlkOk X.N X.env.scope scope own)
    (hg : ∀ (s : Shared) (H : Hp) (C : Addr) (cl : List (Str × Addr)) (fp : List Addr), PG (X.blk s H scope (compEnvC scope cl C X.env) fp) tg (tG X.K g))
    (ht : ∀ (s : Shared) (H : Hp) (C : Addr) (cl : List (Str × Addr)) (fp : List Addr), PTs (X.blk s H scope (compEnvC scope cl C X.env) fp) xifs (tBs (evalAnd c) X.K ifs))
    (he : ∀ (s : Shared) (H : Hp) (C : Addr) (cl : List (Str × Addr)) (fp : List Addr), PE (X.blk s H scope (compEnvC scope cl C X.env) fp) xe (tE X.K c elt)) (hf : noSetE iter = true) (hown : ∀ i ∈ tgN g, i ∈ own.map (·.2)) :
    PS X (.Assign [.Name y py] (.ListComp xe [⟨tg, iter, xifs, 0⟩] scope pos) spos) (tS X.K c (.asg (.name i) e')) :=
  PS.imp (ps_setLc hc hN hy hyl hsw hi ok hg ht he (no_fold hf X.env)) fun D σ H h => lc_read hown (rd _ _ _ (set_read h))
end
end QE

set_option Elab.async false
set_option linter.all false
set_option maxRecDepth 10000
set_option maxHeartbeats 1000000
/-! Statements. -/
namespace QE
open PySem PySem.Spec PyProof.Rows L2
theorem cell_read {K : PySem.W.Frag} {c : Ctx} {ev : E} {σ : L2.St} {H : Hp} {Q : VK} (h : tE K c (.cell ev) σ H Q) : tE K c ev σ H Q := by
  obtain ⟨hid, ρ, env, S, hE, hs, h⟩ := h
  simp only [evalE] at h
  obtain ⟨x, S1, q, hk⟩ := h.bind
  refine ⟨hid, ρ, env, S, hE, hs, ?_⟩
  rw [q]
  intro ρ1 H1 e1 s1 v r fr
  have hk := hk ρ H (Ext.refl _ _)
  unfold newCell at hk
  split at hk
  · rename_i xs
    obtain ⟨a, ev, h0, s2⟩ := fr
    subst ev
    refine hk (ρ1 ++ [a]) H1 (e1.give h0) s2 (.ref a) ?_ trivial
    simp only [Rep]
    refine ⟨a, ?_, rfl⟩
    rw [← s1.len, List.getElem?_append_right (Nat.le_refl _)]
    simp
  · rename_i t kvs
    obtain ⟨a, ev, h0, s2⟩ := fr
    subst ev
    refine hk (ρ1 ++ [a]) H1 (e1.give h0) s2 (.ref a) ?_ trivial
    simp only [Rep]
    refine ⟨a, ?_, rfl⟩
    rw [← s1.len, List.getElem?_append_right (Nat.le_refl _)]
    simp
  · exact hk.elim
section
variable {X : Cx} {c : Ctx} {pos : Pos} {xa xb : Expr} {ea eb : E}
/-! ### shapes of assignments -/
def noComp : Expr → Bool
  | .ListComp _ _ _ _ => false
  | .SetComp _ _ _ _ => false
  | .DictComp _ _ _ _ _ => false
  | _ => true
theorem no_swaps {e : Expr} (h : noComp e = true) (t : Option Expr) (l : Nat) (env : PySem.Env) : swapsWith e t l env = pure false := by
  cases e <;> first | rfl | cases h
def noName : Expr → Bool
  | .Name _ _ => false
  | _ => true
theorem no_swapT {t : Expr} (h : noName t = true) (e : Expr) (l : Nat) (env : PySem.Env) : swapsWith e (some t) l env = pure false := by
  cases t <;> first | (cases h; done) | (cases e <;> rfl)
def noTup : Expr → Bool
  | .Tuple _ _ _ => false
  | _ => true
theorem no_stores {e : Expr} (h : noTup e = true) (tg : Expr) (env : PySem.Env) : swappedStores [tg] e env = pure none := by
  cases e <;> first | (cases h; done) | (cases tg <;> rfl)
def noSeqT : Expr → Bool
  | .Tuple _ _ _ => false
  | .List _ _ => false
  | _ => true
theorem no_storesT {tg : Expr} (h : noSeqT tg = true) (e : Expr) (env : PySem.Env) : swappedStores [tg] e env = pure none := by
  cases tg <;> first | (cases h; done) | (cases e <;> rfl)

/-- a target's name that is no plain local -/
def celT (sc : Scope) : Expr → Bool
  | .Name y _ => !decide (sc.names.lookup y = some .local)
  | _ => false
theorem cel_swaps {t : Expr} {env : PySem.Env} (h : celT env.scope t = true) (e : Expr) (l : Nat) : swapsWith e (some t) l env = pure false := by
  cases t <;> simp only [celT] at h <;> try (cases h; done)
  rename_i y p
  simp only [Bool.not_eq_true', decide_eq_false_iff_not] at h
  have hk : (env.kindOf y == some .local) = false := by
    show (env.scope.names.lookup y == some NameKind.local) = false
    simpa using h
  cases e <;> first | rfl | (unfold swapsWith; simp [hk])
def celTs (sc : Scope) : Expr → Bool
  | .Tuple ts _ _ => ts.any (celT sc)
  | _ => false
theorem cel_stores {tg : Expr} {env : PySem.Env} (h : celTs env.scope tg = true) (e : Expr) : swappedStores [tg] e env = pure none := by
  cases tg <;> simp only [celTs] at h <;> try (cases h; done)
  rename_i ts kt pt
  cases e <;> try rfl
  rename_i vs k2 p2
  have key : ∀ line : Nat, ((ts.filterMap fun
    | .Name id pos => if env.kindOf id == some .local && pos.line == line then some id else none
    | _ => none).length != ts.length) = true := by
    intro line
    obtain ⟨t, ht, hc⟩ := List.any_eq_true.mp h
    have := List.length_filterMap_lt_length_iff_exists (f := fun x : Expr => (match x with
      | .Name id pos => if env.kindOf id == some .local && pos.line == line then some id else none
      | _ => none : Option Str)) (xs := ts)
    have hh := this.mpr ⟨t, ht, by
      cases t <;> simp only [celT] at hc <;> try (cases hc; done)
      rename_i y p
      simp only [Bool.not_eq_true', decide_eq_false_iff_not] at hc
      have hk : (env.kindOf y == some .local) = false := by
        show (env.scope.names.lookup y == some NameKind.local) = false
        simpa using hc
      simp [hk]⟩
    simp only [bne_iff_ne, ne_eq]
    omega
  unfold swappedStores
  show (if (!(ts.length == 2 || ts.length == 3) || vs.length != ts.length || env.blockKind != ScopeKind.function) = true then pure none else _) = _
  split
  · rfl
  · split
    · rfl
    · rw [if_pos]
      rw [Bool.or_eq_true]
      left
      exact key _

/-! ### assignments -/
theorem s_asg {tg : Expr} {g : T} (ha : PE X xa (tE X.K c ea)) (hg : PG X tg (tG X.K g)) (hp : plainG tg = true) (h1 : noComp xa = true ∨ noName tg = true ∨ celT X.env.scope tg = true) (h2 : noTup xa = true ∨ noSeqT tg = true ∨ celTs X.env.scope tg = true) : PS X (.Assign [tg] xa pos) (tS X.K c (.asg g ea)) := by
  have sw : swapsWithSole [tg] xa pos.line X.env = pure false := by
    show swapsWith xa (some tg) pos.line X.env = _
    rcases h1 with h | h | h
    · exact no_swaps h _ _ _
    · exact no_swapT h _ _ _
    · exact cel_swaps h _ _
  have ss : swappedStores [tg] xa X.env = pure none := by
    rcases h2 with h | h | h
    · exact no_stores h _ _
    · exact no_storesT h _ _
    · exact cel_stores h _
  refine PS.imp (ps_asg ha hg sw ss (by rw [each_cons hp]; rfl)) fun D σ H h => ?_
  obtain ⟨hid, ρ, env, S, hE, hs, h⟩ := h
  simp only [execS] at h
  refine tE.of hE hs h fun v S1 ρ1 H1 u e1 s1 r1 f1 h1 => ?_
  obtain ⟨env', hb, h2⟩ := h1.some
  exact ⟨hid, ρ1, env, S1, v, env', hE.mono e1, s1, r1, hb, fun σ' hE' _ => h2.pure s1 σ' hE'⟩
theorem sole_no {t e : Expr} {l : Nat} {env : PySem.Env} (h : noComp e = true ∨ noName t = true) : swapsWithSole [t] e l env = pure false := by
  show swapsWith e (some t) l env = _
  rcases h with h | h
  · exact no_swaps h _ _ _
  · exact no_swapT h _ _ _
theorem stores2 {x y : Str} {px py pt pt2 : Pos} {kt k2 : Nat} {a b : Expr} {env : PySem.Env} (hk : env.blockKind = .function) (hx : env.kindOf x = some .local) (hy : env.kindOf y = some .local) (hl : (py.line == px.line) = true) (hne : (x == y) = false)
    (hp : [a, b].all plainE = true) (hf : [a, b].all (foldedForSure 8) = false) (ho : [a, b].all (constantsAlone 8) = false) : swappedStores [.Tuple [.Name x px, .Name y py] kt pt] (.Tuple [a, b] k2 pt2) env = pure (some [x, y]) := by
  have hp1 : plainE a = true := (by simp only [List.all_cons, Bool.and_eq_true] at hp; exact hp.1)
  have hp2 : plainE b = true := (by simp only [List.all_cons, Bool.and_eq_true] at hp; exact hp.2.1)
  have hl1 : py.line = px.line := by simpa using hl
  have hn1 : x ≠ y := by simpa using hne
  have hn2 : ¬ y = x := fun z => hn1 z.symm
  unfold swappedStores
  simp [hk, hx, hy, hl1, hn1, hn2, hf, ho, Expr.pos, List.filterMap_cons, List.eraseDups_cons]
  intro h
  rcases h with h | h
  · cases a <;> first | (cases h; done) | (cases hp1; done)
  · cases b <;> first | (cases h; done) | (cases hp2; done)
theorem stores3 {x y z : Str} {px py pz pt pt2 : Pos} {kt k2 : Nat} {a b d : Expr} {env : PySem.Env} (hk : env.blockKind = .function) (hx : env.kindOf x = some .local) (hy : env.kindOf y = some .local) (hz : env.kindOf z = some .local)
    (hl : (py.line == px.line) = true) (hl2 : (pz.line == px.line) = true) (hne : (x == y) = false) (hxz : (x == z) = false) (hyz : (y == z) = false)
    (hp : [a, b, d].all plainE = true) (hf : [a, b, d].all (foldedForSure 8) = false) (ho : [a, b, d].all (constantsAlone 8) = false) : swappedStores [.Tuple [.Name x px, .Name y py, .Name z pz] kt pt] (.Tuple [a, b, d] k2 pt2) env = pure (some [x, y, z]) := by
  have hp1 : plainE a = true := (by simp only [List.all_cons, Bool.and_eq_true] at hp; exact hp.1)
  have hp2 : plainE b = true := (by simp only [List.all_cons, Bool.and_eq_true] at hp; exact hp.2.1)
  have hp3 : plainE d = true := (by simp only [List.all_cons, Bool.and_eq_true] at hp; exact hp.2.2.1)
  have hl1 : py.line = px.line := by simpa using hl
  have hl3 : pz.line = px.line := by simpa using hl2
  have hn1 : x ≠ y := by simpa using hne
  have hn2 : ¬ y = x := fun z => hn1 z.symm
  have hn3 : x ≠ z := by simpa using hxz
  have hn4 : ¬ z = x := fun z => hn3 z.symm
  have hn5 : y ≠ z := by simpa using hyz
  have hn6 : ¬ z = y := fun z => hn5 z.symm
  unfold swappedStores
  simp [hk, hx, hy, hz, hl1, hl3, hn1, hn2, hn3, hn4, hn5, hn6, hf, ho, Expr.pos, List.filterMap_cons, List.eraseDups_cons]
  intro h
  rcases h with h | h | h
  · cases a <;> first | (cases h; done) | (cases hp1; done)
  · cases b <;> first | (cases h; done) | (cases hp2; done)
  · cases d <;> first | (cases h; done) | (cases hp3; done)
theorem s_par2 {i j : Nat} {x y : Str} {a b : Expr} {es : List E} {px py pt pt2 : Pos} {kt k2 : Nat} (hc : X.calm = true) (hN : X.N.Nodup) (hi : X.N[i]? = some x) (hj : X.N[j]? = some y) (hij : i ≠ j) (hk : X.env.blockKind = .function)
    (hx : X.env.kindOf x = some .local) (hy : X.env.kindOf y = some .local) (ha : PA X [a, b] (tEs X.K c es)) (hl : (py.line == px.line) = true) (hne : (x == y) = false)
    (hp : [a, b].all plainE = true) (hf : [a, b].all (foldedForSure 8) = false) (ho : [a, b].all (constantsAlone 8) = false) :
    PS X (.Assign [.Tuple [.Name x px, .Name y py] kt pt] (.Tuple [a, b] k2 pt2) pos) (tS X.K c (.par [i, j] es)) := by
  refine PS.imp (ps_par hc hN hi hj hij hx hy ha (stores2 hk hx hy hl hne hp hf ho) (sole_no (.inl rfl))) fun D σ H h => ?_
  obtain ⟨hid, ρ, env, S, hE, hs, h⟩ := h
  simp only [execS] at h
  refine tEs.of hE hs h fun ys S1 ρ1 H1 vs e1 s1 r1 h1 => ?_
  obtain ⟨env', hb, h2⟩ := h1.some
  match ys, hb, r1 with
  | [u, w], hb, r1 =>
    simp only [setAll, Option.some.injEq] at hb
    subst hb
    simp only [RepL] at r1
    obtain ⟨v1, vr, ev, ru, v2, vr2, ev2, rw', ev3⟩ := r1
    subst ev3 ev2 ev
    exact ⟨v1, v2, rfl, h2.pure s1 _ (((hE.mono e1).set i ru.1 ru.2).set j rw'.1 rw'.2)⟩
  | [], hb, _ => simp [setAll] at hb
  | [_], hb, _ => simp [setAll] at hb
  | _ :: _ :: _ :: _, hb, _ => simp [setAll] at hb
theorem s_par3 {i j l : Nat} {x y z : Str} {a b d : Expr} {es : List E} {px py pz pt pt2 : Pos} {kt k2 : Nat} (hc : X.calm = true) (hN : X.N.Nodup) (hi : X.N[i]? = some x) (hj : X.N[j]? = some y) (hl' : X.N[l]? = some z) (hij : i ≠ j) (hil : i ≠ l) (hjl : j ≠ l) (hk : X.env.blockKind = .function)
    (hx : X.env.kindOf x = some .local) (hy : X.env.kindOf y = some .local) (hz : X.env.kindOf z = some .local) (ha : PA X [a, b, d] (tEs X.K c es))
    (hl : (py.line == px.line) = true) (hl2 : (pz.line == px.line) = true) (hne : (x == y) = false) (hxz : (x == z) = false) (hyz : (y == z) = false)
    (hp : [a, b, d].all plainE = true) (hf : [a, b, d].all (foldedForSure 8) = false) (ho : [a, b, d].all (constantsAlone 8) = false) :
    PS X (.Assign [.Tuple [.Name x px, .Name y py, .Name z pz] kt pt] (.Tuple [a, b, d] k2 pt2) pos) (tS X.K c (.par [i, j, l] es)) := by
  refine PS.imp (ps_par3 hc hN hi hj hl' hij hil hjl hx hy hz ha (stores3 hk hx hy hz hl hl2 hne hxz hyz hp hf ho) (sole_no (.inl rfl))) fun D σ H h => ?_
  obtain ⟨hid, ρ, env, S, hE, hs, h⟩ := h
  simp only [execS] at h
  refine tEs.of hE hs h fun ys S1 ρ1 H1 vs e1 s1 r1 h1 => ?_
  obtain ⟨env', hb, h2⟩ := h1.some
  match ys, hb, r1 with
  | [u, w, q], hb, r1 =>
    simp only [setAll, Option.some.injEq] at hb
    subst hb
    simp only [RepL] at r1
    obtain ⟨v1, vr, ev, ru, v2, vr2, ev2, rw', v3, vr3, ev3, rq, ev4⟩ := r1
    subst ev4 ev3 ev2 ev
    exact ⟨v1, v2, v3, rfl, h2.pure s1 _ ((((hE.mono e1).set i ru.1 ru.2).set j rw'.1 rw'.2).set l rq.1 rq.2)⟩
  | [], hb, _ => simp [setAll] at hb
  | [_], hb, _ => simp [setAll] at hb
  | [_, _], hb, _ => simp [setAll] at hb
  | _ :: _ :: _ :: _ :: _, hb, _ => simp [setAll] at hb

/-! ### o[i] = e, name op= e -/
theorem set_ok {o i : Expr} (h : noSlice i = true) {env : PySem.Env} : ∀ v, assign (.Subscript o i pos) env v = (do
      let ov ← holding [v] (eval o env)
      let iv ← holding [v, ov] (eval i env)
      standAt pos
      holding [v, ov, iv] (setItem ov iv v)
      release [v, ov, iv] []) := by
  intro v
  cases i <;> first | rfl | (cases h; done)
theorem s_setIx {o i : Expr} {eo ei : E} {tpos : Pos} (hu : X.A.units + 65 < cLine) (ha : PE X xa (tE X.K c ea)) (ho : PE X o (tE X.K c eo)) (hi : PE X i (tE X.K c ei)) (hp : noSlice i = true) : PS X (.Assign [.Subscript o i tpos] xa pos) (tS X.K c (.setIx eo ei ea)) := by
  refine PS.imp (ps_asg ha (pg_sub ho hi (set_Q (b := c.base) (by omega)) (set_ok hp)) (sole_no (.inr rfl)) (no_storesT rfl _ _) rfl) fun D σ H h => ?_
  obtain ⟨hid, ρ, env, S, hE, hs, h⟩ := h
  simp only [execS] at h
  refine tE.of hE hs h fun v S1 ρ1 H1 u e1 s1 r1 f1 h1 => ?_
  refine tE.of (hE.mono e1) s1 h1 fun x S2 ρ2 H2 xv e2 s2 r2 f2 h2 => ?_
  refine tE.of ((hE.mono e1).mono e2) s2 h2 fun y S3 ρ3 H3 yv e3 s3 r3 f3 h3 => ?_
  refine ⟨hid, ρ3, S3, x, y, v, s3, Rep.mono e3 _ _ r2, r3, Rep.mono e3 _ _ (Rep.mono e2 _ _ r1), ?_⟩
  obtain ⟨_, S4, q, hk⟩ := h3.bind
  rw [q]
  intro ρ4 H4 e4 s4
  exact (hk ρ4 H4 e4).pure s4 σ ((((hE.mono e1).mono e2).mono e3).mono e4)
/-- x op= y of two ints, of two texts -/
def rAug (K : PySem.W.Frag) (op : BOp) : TIp := fun v w H Q => ∃ hid ρ S x y z, SOk K hid ρ H S ∧ Rep K hid ρ H x v ∧ Rep K hid ρ H y w ∧ ((∃ a b, x = .int a ∧ y = .int b) ∨ ∃ a b, x = .str a ∧ y = .str b) ∧ QE.bin S op x y = some z ∧ ∀ u, Rep K hid ρ H z u → Q u H
def augOk : BOp → Bool
  | .add => true
  | .sub => true
  | _ => false
theorem ip_Q {op : BOp} (h : augOk op = true) : PIp X (opOf op) (rAug X.K op) := by
  intro pins s σ H v w vv wv Q I rv rw' hh
  obtain ⟨hid, ρ, S, x, y, z, so, rx, ry, k, e, q⟩ := hh
  rcases k with ⟨a, b, e1, e2⟩ | ⟨a, b, e1, e2⟩
  · subst e1 e2
    cases rx.int_
    cases ry.int_
    cases op with
    | add =>
      cases e
      exact ip_add pins s σ H _ _ vv wv Q I rv rw' ⟨a, b, rfl, rfl, q _ .of_int⟩
    | sub =>
      cases e
      exact ip_sub pins s σ H _ _ vv wv Q I rv rw' ⟨a, b, rfl, rfl, q _ .of_int⟩
    | _ => cases h
  · subst e1 e2
    simp only [Rep] at rx ry
    subst rx ry
    cases op with
    | add =>
      simp only [QE.bin, addV] at e
      split at e
      · cases e
        rename_i hz
        refine iop_add_str pins s σ H _ _ vv wv Q I rv rw' ⟨strOf a, strOf b, rfl, rfl, by rw [strOf_len, strOf_len, ← lim_eq]; exact hz, ?_⟩
        have := q (.str (strOf (a ++ b))) .of_str
        have e3 : strOf (a ++ b) = strOf a ++ strOf b := by
          show strOf (a ++ b) = (⟨(strOf a).cps ++ (strOf b).cps⟩ : Str)
          simp [strOf]
        rw [← e3]
        exact this
      · cases e
    | sub => simp [QE.bin, subV] at e
    | _ => cases h
theorem s_aug {i : Nat} {x : Str} {op : BOp} {pos' : Pos} (hop : augOk op = true) (hN : X.N.Nodup) (hi : X.N[i]? = some x) (hx : Loc X.env.scope x) (ha : PE X xa (tE X.K c ea)) (hf : X.fn x = true ∨ X.env.scope.names.lookup x = some .local) :
    PS X (.AugAssign (.Name x pos') (opOf op) xa pos) (tS X.K c (.aug i op ea)) := by
  refine PS.imp (ps_aug hN hi hx ha (ip_Q hop) hf) fun D σ H h => ?_
  obtain ⟨hid, ρ, env, S, hE, hs, h⟩ := h
  simp only [execS] at h
  split at h
  · rename_i x0 hx0
    obtain ⟨v, hv, st, rx⟩ := hE.at_ _ _ hx0
    refine ⟨v, hv, ?_⟩
    refine tE.of hE hs h fun y S1 ρ1 H1 w e1 s1 r1 f1 h1 => ?_
    have fin : ((∃ a b, x0 = .int a ∧ y = .int b) ∨ ∃ a b, x0 = .str a ∧ y = .str b) → Out X.K hid ρ1 H1 ((R.of (QE.bin S1 op x0 y) S1).bind fun z S2 => .ok (.nx, env.set i (some z.settle)) S2) (Fin X.K hid H D) → rAug X.K op v w H1 fun z H2 => D.nx (σ.set i (some z)) H2 := fun k h2 => by
      obtain ⟨z, hz, h3⟩ := h2.some
      exact ⟨hid, ρ1, S1, x0, y, z, s1, Rep.mono e1 _ _ rx, r1, k, hz, fun u ru => h3.pure s1 _ ((hE.mono e1).set i (st_settle z) ru.settle)⟩
    split at h1
    · exact fin (.inl ⟨_, _, rfl, rfl⟩) h1
    · exact fin (.inr ⟨_, _, rfl, rfl⟩) h1
    · exact h1.elim
  · exact h.elim
theorem s_ext {i : Nat} {x : Str} {pos' : Pos} (hN : X.N.Nodup) (hi : X.N[i]? = some x) (hx : Loc X.env.scope x) (ha : PE X xa (tE X.K c ea)) (hf : X.fn x = true ∨ X.env.scope.names.lookup x = some .local) :
    PS X (.AugAssign (.Name x pos') .Add xa pos) (tS X.K c (.ext i ea)) := by
  refine PS.imp (ps_aug hN hi hx ha (iop_Q (b := c.base)) hf) fun D σ H h => ?_
  obtain ⟨hid, ρ, env, S, hE, hs, h⟩ := h
  simp only [execS] at h
  split at h
  · rename_i x0 hx0
    obtain ⟨v, hv, st, rx⟩ := hE.at_ _ _ hx0
    refine ⟨v, hv, ?_⟩
    refine tE.of hE hs h fun y S1 ρ1 H1 w e1 s1 r1 f1 h1 => ?_
    refine ⟨hid, ρ1, S1, x0, y, s1, Rep.mono e1 _ _ rx, r1, ?_⟩
    obtain ⟨z, S2, q, hk⟩ := h1.bind
    rw [q]
    intro ρ2 H2 e2 s2 u ru
    have hz : z = x0 := by
      unfold QE.extend at q
      split at q
      · split at q
        · split at q
          · cases q; rfl
          · cases q
        · cases q
      · cases q
    subst hz
    refine (hk ρ2 H2 e2).pure s2 _ ?_
    have := ((hE.mono e1).mono e2).set i st ru
    have hh : env.set i (some z) = env := by
      apply List.ext_getElem?
      intro j
      by_cases hj : i = j
      · subst hj
        rw [hx0]
        exact List.getElem?_set_self (List.getElem?_eq_some_iff.mp hx0).1
      · rw [List.getElem?_set_ne hj]
    rw [hh] at this
    exact this
  · exact h.elim

/-! ### the small ones -/
variable {xs ys : List Stmt} {ss tt : List Stm}
theorem s_expr (ha : PE X xa (tE X.K c ea)) (hn : noComp xa = true) : PS X (.Expr xa pos) (tS X.K c (.expr ea)) := by
  refine PS.imp (ps_expr ha (no_swaps hn _ _ _)) fun D σ H h => ?_
  obtain ⟨hid, ρ, env, S, hE, hs, h⟩ := h
  simp only [execS] at h
  exact tE.of hE hs h fun v S1 ρ1 H1 u e1 s1 r1 f1 h1 => h1.pure s1 σ (hE.mono e1)
theorem s_ret (ha : PE X xa (tE X.K c ea)) : PS X (.Return (some xa) pos) (tS X.K c (.ret ea)) := by
  refine PS.imp (ps_ret ha) fun D σ H h => ?_
  obtain ⟨hid, ρ, env, S, hE, hs, h⟩ := h
  simp only [execS] at h
  exact tE.of hE hs h fun v S1 ρ1 H1 u e1 s1 r1 f1 h1 => h1.pure s1 u r1 f1
theorem s_retN : PS X (.Return none pos) (tS X.K c .retN) := by
  refine PS.imp ps_retN fun D σ H h => ?_
  obtain ⟨hid, ρ, env, S, hE, hs, h⟩ := h
  simp only [execS] at h
  exact h.pure hs _ .of_non trivial
theorem s_if (ht : PT X xa (tT X.K c ea)) (h1 : PSs X xs (tSs X.K c ss)) (h2 : PSs X ys (tSs X.K c tt)) : PS X (.If xa xs ys pos) (tS X.K c (.if_ ea ss tt)) := by
  refine PS.imp (ps_if ht h1 h2) fun D σ H h => ?_
  obtain ⟨hid, ρ, env, S, hE, hs, h⟩ := h
  simp only [execS] at h
  refine tT.of hE hs h fun b S1 ρ1 H1 e1 s1 h1 => ?_
  cases b with
  | true => exact ⟨hid, ρ1, env, S1, hE.mono e1, s1, h1.mono fun z S2 ρ2 H2 e2 q => Fin.anti e1 q⟩
  | false => exact ⟨hid, ρ1, env, S1, hE.mono e1, s1, h1.mono fun z S2 ρ2 H2 e2 q => Fin.anti e1 q⟩
theorem s_pass : PS X (.Pass pos) (tS X.K c .pass) := by
  refine PS.imp ps_pass fun D σ H h => ?_
  obtain ⟨hid, ρ, env, S, hE, hs, h⟩ := h
  simp only [execS] at h
  exact h.pure hs σ hE
theorem s_brk : PS X (.Break pos) (tS X.K c .brk) := by
  refine PS.imp ps_break fun D σ H h => ?_
  obtain ⟨hid, ρ, env, S, hE, hs, h⟩ := h
  simp only [execS] at h
  exact h.pure hs σ hE
theorem s_cont : PS X (.Continue pos) (tS X.K c .cont) := by
  refine PS.imp ps_continue fun D σ H h => ?_
  obtain ⟨hid, ρ, env, S, hE, hs, h⟩ := h
  simp only [execS] at h
  exact h.pure hs σ hE
/-- no run that counts comes to a raise -/
theorem s_raise {st : Stmt} {k : Nat} {es : List E} : PS X st (tS X.K c (.raise_ k es)) := by
  refine PS.imp ps_never fun D σ H h => ?_
  obtain ⟨hid, ρ, env, S, hE, hs, h⟩ := h
  simp only [execS] at h
  obtain ⟨ys, S1, q, hk⟩ := h.bind
  exact hk ρ H (Ext.refl _ _)
end
end QE

set_option Elab.async false
set_option linter.all false
set_option maxRecDepth 10000
set_option maxHeartbeats 1000000
/-! A def's run leaves the callers' cells without cells of its own. -/
namespace QE
mutual
theorem low_mono {a b : Nat} (h : a ≤ b) : ∀ v : Val, v.low a = true → v.low b = true
  | .non, _ => rfl
  | .bl _, _ => rfl
  | .int _, _ => rfl
  | .str _, _ => rfl
  | .kls _, _ => rfl
  | .tup xs, q => by simp only [Val.low] at q ⊢; exact lowL_mono h xs q
  | .lst _ xs, q => by simp only [Val.low] at q ⊢; exact lowL_mono h xs q
  | .dic _ _ kvs, q => by simp only [Val.low] at q ⊢; exact lowD_mono h kvs q
  | .ref n, q => by simp only [Val.low, decide_eq_true_eq] at q ⊢; omega
theorem lowL_mono {a b : Nat} (h : a ≤ b) : ∀ xs : List Val, Val.lowL a xs = true → Val.lowL b xs = true
  | [], _ => rfl
  | x :: xs, q => by simp only [Val.lowL, Bool.and_eq_true] at q ⊢; exact ⟨low_mono h x q.1, lowL_mono h xs q.2⟩
theorem lowD_mono {a b : Nat} (h : a ≤ b) : ∀ xs : List (Val × Val), Val.lowD a xs = true → Val.lowD b xs = true
  | [], _ => rfl
  | (k, x) :: xs, q => by simp only [Val.lowD, Bool.and_eq_true] at q ⊢; exact ⟨low_mono h x q.1, lowD_mono h xs q.2⟩
end
theorem low_settle {b : Nat} {v : Val} (h : v.settle.low b = true) : v.low b = true := by
  cases v <;> simpa only [Val.settle, Val.low] using h
theorem lowL_app {b : Nat} : ∀ {xs ys : List Val}, Val.lowL b xs = true → Val.lowL b ys = true → Val.lowL b (xs ++ ys) = true
  | [], _, _, h => h
  | x :: xs, ys, h, k => by
    simp only [List.cons_append, Val.lowL, Bool.and_eq_true] at h ⊢
    exact ⟨h.1, lowL_app h.2 k⟩
theorem lowL_set {b : Nat} {v : Val} (hv : v.low b = true) : ∀ {xs : List Val} (j : Nat), Val.lowL b xs = true → Val.lowL b (xs.set j v) = true
  | [], _, h => by simpa using h
  | x :: xs, 0, h => by simp only [List.set_cons_zero, Val.lowL, Bool.and_eq_true] at h ⊢; exact ⟨hv, h.2⟩
  | x :: xs, j + 1, h => by simp only [List.set_cons_succ, Val.lowL, Bool.and_eq_true] at h ⊢; exact ⟨h.1, lowL_set hv j h.2⟩
theorem lowD_app {b : Nat} : ∀ {xs ys : List (Val × Val)}, Val.lowD b xs = true → Val.lowD b ys = true → Val.lowD b (xs ++ ys) = true
  | [], _, _, h => h
  | (k, x) :: xs, ys, h, q => by
    simp only [List.cons_append, Val.lowD, Bool.and_eq_true] at h ⊢
    exact ⟨h.1, lowD_app h.2 q⟩
theorem lowD_map {b : Nat} {k v : Val} (hv : v.low b = true) : ∀ {xs : List (Val × Val)}, Val.lowD b xs = true → Val.lowD b (dMap k v xs) = true
  | [], h => by simpa [dMap] using h
  | (q, x) :: xs, h => by
    simp only [Val.lowD, Bool.and_eq_true] at h
    simp only [dMap]
    split
    · simp only [Val.lowD, Bool.and_eq_true]; exact ⟨hv, lowD_map hv h.2⟩
    · simp only [Val.lowD, Bool.and_eq_true]; exact ⟨h.1, lowD_map hv h.2⟩
theorem lowD_put {b : Nat} {k v : Val} (hv : v.low b = true) {xs : List (Val × Val)} (h : Val.lowD b xs = true) : Val.lowD b (dPut k v xs) = true := by
  unfold dPut
  split
  · exact lowD_map hv h
  · exact lowD_app h (by simp only [Val.lowD, hv, Bool.and_self])
def Ob.low (b : Nat) : Ob → Bool
  | .lst xs => Val.lowL b xs
  | .dic _ kvs => Val.lowD b kvs
def LowAt (b : Nat) (S : Sto) : Prop := b ≤ S.length ∧ ∀ (n : Nat) (ob : Ob), n < b → S[n]? = some ob → ob.low b = true
def KeepR {α : Type} (b : Nat) (r : R α) : Prop := match r with
  | .ok _ S => LowAt b S
  | .exc _ _ S => LowAt b S
  | .bad => True
section
variable {α β : Type} {b : Nat}
theorem KeepR.bind {r : R α} {f : α → Sto → R β} (h : KeepR b r) (k : ∀ a S, LowAt b S → KeepR b (f a S)) : KeepR b (r.bind f) := by
  cases r with
  | ok a S => exact k a S h
  | exc c p S => exact h
  | bad => exact h
theorem KeepR.calm {r : R α} (h : KeepR b r) : KeepR b r.calm := by
  cases r with
  | ok a S => exact h
  | exc c p S => trivial
  | bad => trivial
theorem KeepR.of {o : Option α} {S : Sto} (h : LowAt b S) : KeepR b (R.of o S) := by
  cases o with
  | some a => exact h
  | none => trivial
theorem LowAt.set {S : Sto} {n : Nat} {ob : Ob} (h : LowAt b S) (k : n < b → ob.low b = true) : LowAt b (S.set n ob) := by
  refine ⟨by rw [List.length_set]; exact h.1, fun m o hm q => ?_⟩
  by_cases e : n = m
  · subst e
    rw [List.getElem?_set_self (by have := h.1; omega)] at q
    cases q
    exact k hm
  · rw [List.getElem?_set_ne e] at q
    exact h.2 m o hm q
theorem LowAt.push {S : Sto} {ob : Ob} (h : LowAt b S) : LowAt b (S ++ [ob]) := by
  refine ⟨by rw [List.length_append]; have := h.1; omega, fun m o hm q => ?_⟩
  rw [List.getElem?_append_left (by have := h.1; omega)] at q
  exact h.2 m o hm q
theorem LowAt.take {S : Sto} {m : Nat} (h : LowAt b S) (hm : b ≤ m) : LowAt b (S.take m) := by
  refine ⟨by rw [List.length_take]; have := h.1; omega, fun n o hn q => ?_⟩
  rw [List.getElem?_take_of_lt (by omega)] at q
  exact h.2 n o hn q
theorem may_low {base n : Nat} {v : Val} (h : mayPut base n v = true) (hb : b ≤ base) (hn : n < b) : v.low b = true := by
  unfold mayPut at h
  simp only [Bool.or_eq_true, decide_eq_true_eq] at h
  rcases h with h | h
  · omega
  · exact low_mono (Nat.zero_le _) v h
theorem keep_append {base : Nat} {S : Sto} {o v : Val} (hb : b ≤ base) (h : LowAt b S) : KeepR b (QE.append base S o v) := by
  unfold QE.append
  split
  · split
    · split
      · rename_i hc
        simp only [Bool.and_eq_true] at hc
        refine LowAt.set h fun hn => ?_
        have := h.2 _ _ hn (by assumption)
        exact lowL_app this (by simp only [Val.lowL, may_low hc.2 hb hn, Bool.and_self])
      · trivial
    · trivial
  · trivial
theorem keep_extend {base : Nat} {S : Sto} {o v : Val} (hb : b ≤ base) (h : LowAt b S) : KeepR b (QE.extend base S o v) := by
  unfold QE.extend
  split
  · rename_i n
    split
    · rename_i xs ys hq _
      split
      · rename_i hc
        simp only [Bool.and_eq_true, Bool.or_eq_true, decide_eq_true_eq] at hc
        refine LowAt.set h fun hn => ?_
        have := h.2 n _ hn hq
        rcases hc.2 with hc | hc
        · omega
        · exact lowL_app this (lowL_mono (Nat.zero_le _) _ hc)
      · trivial
    · trivial
  · trivial
theorem keep_setIx {base : Nat} {S : Sto} {o i v : Val} (hb : b ≤ base) (h : LowAt b S) : KeepR b (QE.setIx base S o i v) := by
  unfold QE.setIx
  split
  · rename_i n
    split
    · rename_i xs hq
      split
      · split
        · split
          · rename_i hc
            refine LowAt.set h fun hn => ?_
            exact lowL_set (may_low hc hb hn) _ (h.2 n _ hn hq)
          · trivial
        · trivial
      · trivial
    · rename_i t kvs hq
      split
      · rename_i hc
        simp only [Bool.and_eq_true] at hc
        refine LowAt.set h fun hn => ?_
        exact lowD_put (may_low hc.2 hb hn) (h.2 n _ hn hq)
      · trivial
    · trivial
  · trivial
theorem keep_cell {S : Sto} {v : Val} (h : LowAt b S) : KeepR b (newCell S v) := by
  unfold newCell
  split
  · exact h.push
  · exact h.push
  · trivial
theorem keep_asInt {v : Val} {S : Sto} (h : LowAt b S) : KeepR b (asInt v S) := by
  cases v <;> first | exact h | trivial
theorem keep_asBl {v : Val} {S : Sto} (h : LowAt b S) : KeepR b (asBl v S) := by
  cases v <;> first | exact h | trivial
theorem keep_range {x y : Int} {S : Sto} (h : LowAt b S) : KeepR b (rangeOf S x y) := by
  unfold rangeOf
  split
  · exact h
  · trivial
theorem keep_if {p : Prop} [Decidable p] {r s : R α} (h1 : KeepR b r) (h2 : KeepR b s) : KeepR b (if p then r else s) := by
  split
  · exact h1
  · exact h2
theorem keep_comp {tg : T} {test : Env → Sto → R Bool} {elt : Env → Sto → R Val} (h1 : ∀ env S, LowAt b S → KeepR b (test env S)) (h2 : ∀ env S, LowAt b S → KeepR b (elt env S)) (env : Env) : ∀ (xs : List Val) (S : Sto), LowAt b S → KeepR b (compLoop tg test elt env xs S)
  | [], S, h => h
  | x :: xs, S, h => by
    unfold compLoop
    split
    · trivial
    · refine (h1 _ S h).bind fun t S1 q1 => ?_
      cases t with
      | true => exact (h2 _ S1 q1).bind fun v S2 q2 => (keep_comp h1 h2 env xs S2 q2).bind fun vs S3 q3 => q3
      | false => exact keep_comp h1 h2 env xs S1 q1
theorem keep_dcomp {tg : T} {t : Bool} {kf vf : Env → Sto → R Val} (h1 : ∀ env S, LowAt b S → KeepR b (kf env S)) (h2 : ∀ env S, LowAt b S → KeepR b (vf env S)) (env : Env) : ∀ (xs : List Val) (acc : List (Val × Val)) (S : Sto), LowAt b S → KeepR b (dcompLoop tg t kf vf env xs acc S)
  | [], acc, S, h => h
  | x :: xs, acc, S, h => by
    unfold dcompLoop
    split
    · trivial
    · exact (h1 _ S h).bind fun k S1 q1 => (h2 _ S1 q1).bind fun v S2 q2 => keep_if (keep_dcomp h1 h2 env xs _ S2 q2) trivial
end
section
variable {b : Nat} {c : Ctx} (hb : b ≤ c.base) (hc : ∀ f vs S, LowAt b S → KeepR b (c.call f vs S))
include hb hc
mutual
theorem keepE : ∀ (e : E) (env : Env) (S : Sto), LowAt b S → KeepR b (evalE c e env S)
  | .var i, env, S, h => by simp only [evalE]; split; exact h; trivial
  | .lit v, env, S, h => by simp only [evalE]; exact h
  | .con i, env, S, h => by simp only [evalE]; exact .of h
  | .bin op x y, env, S, h => by simp only [evalE]; exact (keepE x env S h).bind fun _ S1 q => (keepE y env S1 q).bind fun _ S2 q => .of q
  | .neg x, env, S, h => by simp only [evalE]; exact (keepE x env S h).bind fun _ S1 q => (keep_asInt q).bind fun _ _ q => q
  | .cmp op x y, env, S, h => by simp only [evalE]; exact (keepE x env S h).bind fun _ S1 q => (keepE y env S1 q).bind fun _ S2 q => (KeepR.of q).bind fun _ _ q => q
  | .chain o1 o2 x y z, env, S, h => by
    simp only [evalE]
    exact (keepE x env S h).bind fun _ S1 q => (keepE y env S1 q).bind fun _ S2 q => (KeepR.of q).bind fun _ S3 q => keep_if ((keepE z env S3 q).bind fun _ S4 q => (KeepR.of q).bind fun _ _ q => q) q
  | .and es, env, S, h => by simp only [evalE]; exact (keepAnd es env S h).bind fun _ _ q => q
  | .or es, env, S, h => by simp only [evalE]; exact (keepOr es env S h).bind fun _ _ q => q
  | .not x, env, S, h => by simp only [evalE]; exact (keepE x env S h).bind fun _ S1 q => (keep_asBl q).bind fun _ _ q => q
  | .ite t x y, env, S, h => by simp only [evalE]; exact (keepE t env S h).bind fun _ S1 q => (keep_asBl q).bind fun _ S2 q => keep_if (keepE x env S2 q) (keepE y env S2 q)
  | .tup es, env, S, h => by simp only [evalE]; exact (keepEs es env S h).bind fun _ S1 q => keep_if q trivial
  | .list es, env, S, h => by simp only [evalE]; exact (keepEs es env S h).bind fun _ S1 q => keep_if q trivial
  | .dnew t, env, S, h => by simp only [evalE]; exact h
  | .idx x y, env, S, h => by simp only [evalE]; exact (keepE x env S h).bind fun _ S1 q => (keepE y env S1 q).bind fun _ S2 q => .of q
  | .slice x l u, env, S, h => by simp only [evalE]; exact (keepE x env S h).bind fun _ S1 q => (keepO l env S1 q).bind fun _ S2 q => (keepO u env S2 q).bind fun _ S3 q => .of q
  | .call f es, env, S, h => by simp only [evalE]; exact (keepEs es env S h).bind fun _ S1 q => hc f _ S1 q
  | .bi f es, env, S, h => by simp only [evalE]; exact (keepEs es env S h).bind fun _ S1 q => .of q
  | .isi t x, env, S, h => by simp only [evalE]; exact (keepE x env S h).bind fun _ S1 q => (KeepR.of q).bind fun _ _ q => q
  | .meth m o x, env, S, h => by simp only [evalE]; exact (keepE o env S h).bind fun _ S1 q => (KeepR.of q).bind fun _ S2 q => (keepE x env S2 q).bind fun _ S3 q => .of q
  | .append o x, env, S, h => by simp only [evalE]; exact (keepE o env S h).bind fun _ S1 q => (KeepR.of q).bind fun _ S2 q => (keepE x env S2 q).bind fun _ S3 q => keep_append hb q
  | .comp own tg src ifs elt, env, S, h => by
    simp only [evalE]
    exact (keepSrc src env S h).bind fun _ S1 q => (keep_comp (fun env S h => keepAnd ifs env S h) (fun env S h => keepE elt env S h) _ _ S1 q).calm.bind fun _ S2 q => keep_if q trivial
  | .dcomp own tg src t k v, env, S, h => by
    simp only [evalE]
    exact (keepSrc src env S h).bind fun _ S1 q => (keep_dcomp (fun env S h => keepE k env S h) (fun env S h => keepE v env S h) _ _ _ S1 q).calm.bind fun _ S2 q => keep_if q trivial
  | .cell x, env, S, h => by simp only [evalE]; exact (keepE x env S h).bind fun _ S1 q => keep_cell q
theorem keepEs : ∀ (es : List E) (env : Env) (S : Sto), LowAt b S → KeepR b (evalEs c es env S)
  | [], env, S, h => by simp only [evalEs]; exact h
  | e :: es, env, S, h => by simp only [evalEs]; exact (keepE e env S h).bind fun _ S1 q => (keepEs es env S1 q).bind fun _ S2 q => q
theorem keepO : ∀ (o : Option E) (env : Env) (S : Sto), LowAt b S → KeepR b (evalO c o env S)
  | none, env, S, h => by simp only [evalO]; exact h
  | some e, env, S, h => by simp only [evalO]; exact (keepE e env S h).bind fun _ S1 q => (keep_asInt q).bind fun _ _ q => q
theorem keepAnd : ∀ (es : List E) (env : Env) (S : Sto), LowAt b S → KeepR b (evalAnd c es env S)
  | [], env, S, h => by simp only [evalAnd]; exact h
  | e :: es, env, S, h => by simp only [evalAnd]; exact (keepE e env S h).bind fun _ S1 q => (keep_asBl q).bind fun _ S2 q => keep_if (keepAnd es env S2 q) q
theorem keepOr : ∀ (es : List E) (env : Env) (S : Sto), LowAt b S → KeepR b (evalOr c es env S)
  | [], env, S, h => by simp only [evalOr]; exact h
  | e :: es, env, S, h => by simp only [evalOr]; exact (keepE e env S h).bind fun _ S1 q => (keep_asBl q).bind fun _ S2 q => keep_if q (keepOr es env S2 q)
theorem keepSrc : ∀ (s : Src) (env : Env) (S : Sto), LowAt b S → KeepR b (evalSrc c s env S)
  | .it e, env, S, h => by simp only [evalSrc]; exact (keepE e env S h).bind fun _ S1 q => .of q
  | .rng1 x, env, S, h => by simp only [evalSrc]; exact (keepE x env S h).bind fun _ S1 q => (keep_asInt q).bind fun _ _ q => keep_range q
  | .rng2 x y, env, S, h => by simp only [evalSrc]; exact (keepE x env S h).bind fun _ S1 q => (keep_asInt q).bind fun _ S2 q => (keepE y env S2 q).bind fun _ S3 q => (keep_asInt q).bind fun _ _ q => keep_range q
  | .enum e, env, S, h => by simp only [evalSrc]; exact (keepE e env S h).bind fun _ S1 q => (KeepR.of q).bind fun _ _ q => q
  | .zip x y, env, S, h => by simp only [evalSrc]; exact (keepE x env S h).bind fun _ S1 q => (keepE y env S1 q).bind fun _ S2 q => (KeepR.of q).bind fun _ _ q => q
end
omit hb hc in
theorem keep_for {tg : T} {body : Env → Sto → R (Fl × Env)} (h1 : ∀ env S, LowAt b S → KeepR b (body env S)) : ∀ (xs : List Val) (env : Env) (S : Sto), LowAt b S → KeepR b (forLoop tg body xs env S)
  | [], env, S, h => h
  | x :: xs, env, S, h => by
    unfold forLoop
    split
    · trivial
    · refine (h1 _ S h).bind fun f S1 q => ?_
      split
      · exact keep_for h1 xs _ S1 q
      · exact keep_for h1 xs _ S1 q
      · exact q
      · exact q
omit hb hc in
theorem keep_while {test : Env → Sto → R Bool} {body : Env → Sto → R (Fl × Env)} (h0 : ∀ env S, LowAt b S → KeepR b (test env S)) (h1 : ∀ env S, LowAt b S → KeepR b (body env S)) : ∀ (n : Nat) (env : Env) (S : Sto), LowAt b S → KeepR b (whileLoop test body n env S)
  | 0, env, S, h => trivial
  | n + 1, env, S, h => by
    unfold whileLoop
    refine (h0 _ S h).bind fun t S0 q => ?_
    split
    · refine (h1 _ S0 q).bind fun f S1 q => ?_
      split
      · exact keep_while h0 h1 n _ S1 q
      · exact keep_while h0 h1 n _ S1 q
      · exact q
      · exact q
    · exact q
mutual
theorem keepS : ∀ (s : Stm) (env : Env) (S : Sto), LowAt b S → KeepR b (execS c s env S)
  | .asg tg e, env, S, h => by simp only [execS]; exact (keepE hb hc e env S h).bind fun _ S1 q => (KeepR.of q).bind fun _ _ q => q
  | .par is es, env, S, h => by simp only [execS]; exact (keepEs hb hc es env S h).bind fun _ S1 q => (KeepR.of q).bind fun _ _ q => q
  | .setIx o i e, env, S, h => by
    simp only [execS]
    exact (keepE hb hc e env S h).bind fun _ S1 q => (keepE hb hc o env S1 q).bind fun _ S2 q => (keepE hb hc i env S2 q).bind fun _ S3 q => (keep_setIx hb q).bind fun _ _ q => q
  | .aug i op e, env, S, h => by
    simp only [execS]
    split
    · refine (keepE hb hc e env S h).bind fun _ S1 q => ?_
      split
      · exact (KeepR.of q).bind fun _ _ q => q
      · exact (KeepR.of q).bind fun _ _ q => q
      · trivial
    · trivial
  | .ext i e, env, S, h => by
    simp only [execS]
    split
    · exact (keepE hb hc e env S h).bind fun _ S1 q => (keep_extend hb q).bind fun _ _ q => q
    · trivial
  | .expr e, env, S, h => by simp only [execS]; exact (keepE hb hc e env S h).bind fun _ S1 q => q
  | .ret e, env, S, h => by simp only [execS]; exact (keepE hb hc e env S h).bind fun _ S1 q => q
  | .retN, env, S, h => by simp only [execS]; exact h
  | .if_ t x y, env, S, h => by simp only [execS]; exact (keepE hb hc t env S h).bind fun _ S1 q => (keep_asBl q).bind fun _ S2 q => keep_if (keepSs x env S2 q) (keepSs y env S2 q)
  | .for_ tg src body, env, S, h => by simp only [execS]; exact (keepSrc hb hc src env S h).bind fun _ S1 q => keep_for (fun env S h => keepSs body env S h) _ _ S1 q
  | .while_ t body, env, S, h => by simp only [execS]; exact keep_while (fun env S h => (keepE hb hc t env S h).bind fun _ S1 q => keep_asBl q) (fun env S h => keepSs body env S h) _ _ S h
  | .brk, env, S, h => by simp only [execS]; exact h
  | .cont, env, S, h => by simp only [execS]; exact h
  | .pass, env, S, h => by simp only [execS]; exact h
  | .raise_ k es, env, S, h => by simp only [execS]; exact (keepEs hb hc es env S h).bind fun _ S1 q => q
theorem keepSs : ∀ (s : List Stm) (env : Env) (S : Sto), LowAt b S → KeepR b (execSs c s env S)
  | [], env, S, h => by simp only [execSs]; exact h
  | s :: ss, env, S, h => by
    simp only [execSs]
    refine (keepS s env S h).bind fun f S1 q => ?_
    split
    · exact keepSs ss _ S1 q
    · exact q
end
end
theorem keepFn {P : Prog} {b : Nat} : ∀ (k f : Nat) (vs : List Val) (S : Sto), LowAt b S → KeepR b (callFn P k f vs S)
  | 0, f, vs, S, h => trivial
  | k + 1, f, vs, S, h => by
    unfold callFn
    split
    · trivial
    · rename_i d hd
      refine keep_if ?_ trivial
      have := keepSs (c := { call := callFn P k, con := fun i => P.con[i]?, base := S.length, fuel := P.fuel }) h.1 (fun f vs S h => keepFn k f vs S h) d.body (vs.map some ++ List.replicate (d.size - d.arity) none) S h
      revert this
      generalize execSs _ _ _ _ = r
      intro this
      unfold finish
      split
      · refine keep_if this (.of (LowAt.take this h.1))
      · exact LowAt.take this h.1
      · trivial
      · exact LowAt.take this h.1
      · trivial
end QE

set_option Elab.async false
set_option linter.all false
set_option maxRecDepth 10000
set_option maxHeartbeats 1000000
/-! A def: what its body does, it promises. -/
namespace QE
open PySem PySem.Spec PyProof.Rows L2
section
variable {K : PySem.W.Frag} {hid ρ ρ' : List Addr} {H : Hp}
mutual
theorem Rep.isLow : ∀ (x : Val) (v : V), Rep K hid ρ H x v → x.low ρ.length = true
  | .non, v, h => rfl
  | .bl b, v, h => rfl
  | .int i, v, h => rfl
  | .str s, v, h => rfl
  | .tup xs, v, h => by
    simp only [Rep] at h
    obtain ⟨a, vs, h1, h2, h3⟩ := h
    simp only [Val.low]
    exact RepL.isLow xs vs h3
  | .lst f xs, v, h => by
    simp only [Rep] at h
    obtain ⟨a, vs, h1, h2, h3, h4, h5⟩ := h
    simp only [Val.low]
    exact RepL.isLow xs vs h5
  | .dic f true kvs, v, h => by
    simp only [Rep] at h
    obtain ⟨a, vs, h1, h2, h3, h4, h5⟩ := h
    simp only [Val.low]
    exact RepT.isLow kvs vs h5
  | .dic f false kvs, v, h => by
    simp only [Rep] at h
    obtain ⟨a, vs, h1, h2, h3, h4, h5⟩ := h
    simp only [Val.low]
    exact RepK.isLow kvs vs h5
  | .ref n, v, h => by
    simp only [Rep] at h
    obtain ⟨a, h1, h2⟩ := h
    simp only [Val.low, decide_eq_true_eq]
    exact (List.getElem?_eq_some_iff.mp h1).1
  | .kls ns, v, h => rfl
theorem RepL.isLow : ∀ (xs : List Val) (vs : List V), RepL K hid ρ H xs vs → Val.lowL ρ.length xs = true
  | [], vs, h => rfl
  | x :: xs, vs, h => by
    simp only [RepL] at h
    obtain ⟨v, r, h1, h2, h3⟩ := h
    simp only [Val.lowL, Bool.and_eq_true]
    exact ⟨Rep.isLow x v h2.2, RepL.isLow xs r h3⟩
theorem RepK.isLow : ∀ (xs : List (Val × Val)) (ws : List (L2.Key × V)), RepK K hid ρ H xs ws → Val.lowD ρ.length xs = true
  | [], vs, h => rfl
  | (k, x) :: xs, vs, h => by
    simp only [RepK] at h
    obtain ⟨v, r, h1, h4, h2, h3⟩ := h
    simp only [Val.lowD, Bool.and_eq_true]
    exact ⟨Rep.isLow x v h2.2, RepK.isLow xs r h3⟩
theorem RepT.isLow : ∀ (xs : List (Val × Val)) (ws : List (List L2.Key × V)), RepT K hid ρ H xs ws → Val.lowD ρ.length xs = true
  | [], vs, h => rfl
  | (k, x) :: xs, vs, h => by
    simp only [RepT] at h
    obtain ⟨v, r, h1, h4, h2, h3⟩ := h
    simp only [Val.lowD, Bool.and_eq_true]
    exact ⟨Rep.isLow x v h2.2, RepT.isLow xs r h3⟩
end
theorem SOk.lowAt {S : Sto} (s : SOk K hid ρ H S) : LowAt S.length S := by
  refine ⟨Nat.le_refl _, fun n ob hn q => ?_⟩
  obtain ⟨a, h1, h2⟩ := s.ob n ob q
  rw [← s.len]
  cases ob with
  | lst xs =>
    obtain ⟨vs, q1, q2⟩ := h2
    exact RepL.isLow xs vs q2
  | dic t kvs =>
    cases t with
    | true =>
      obtain ⟨vs, q1, q2⟩ := h2
      exact RepT.isLow kvs vs q2
    | false =>
      obtain ⟨vs, q1, q2⟩ := h2
      exact RepK.isLow kvs vs q2
/-- fewer cells -/
structure Fewer (b : Nat) (ρ ρ' : List Addr) : Prop where
  at_ : ∀ (n : Nat) (a : Addr), n < b → ρ[n]? = some a → ρ'[n]? = some a
  sub : ∀ a, a ∉ ρ → a ∉ ρ'
variable {b : Nat}
mutual
theorem Rep.few (m : Fewer b ρ ρ') : ∀ (x : Val) (v : V), x.low b = true → Rep K hid ρ H x v → Rep K hid ρ' H x v
  | .non, v, _, h => by simp only [Rep] at h ⊢; exact h
  | .bl b, v, _, h => by simp only [Rep] at h ⊢; exact h
  | .int i, v, _, h => by simp only [Rep] at h ⊢; exact h
  | .str s, v, _, h => by simp only [Rep] at h ⊢; exact h
  | .tup xs, v, l, h => by
    simp only [Rep, Val.low] at h l ⊢
    obtain ⟨a, vs, h1, h2, h3⟩ := h
    exact ⟨a, vs, h1, h2, RepL.few m xs vs l h3⟩
  | .lst f xs, v, l, h => by
    simp only [Rep, Val.low] at h l ⊢
    obtain ⟨a, vs, h1, h2, h3, h4, h5⟩ := h
    exact ⟨a, vs, h1, h2, m.sub a h3, h4, RepL.few m xs vs l h5⟩
  | .dic f true kvs, v, l, h => by
    simp only [Rep, Val.low] at h l ⊢
    obtain ⟨a, vs, h1, h2, h3, h4, h5⟩ := h
    exact ⟨a, vs, h1, h2, m.sub a h3, h4, RepT.few m kvs vs l h5⟩
  | .dic f false kvs, v, l, h => by
    simp only [Rep, Val.low] at h l ⊢
    obtain ⟨a, vs, h1, h2, h3, h4, h5⟩ := h
    exact ⟨a, vs, h1, h2, m.sub a h3, h4, RepK.few m kvs vs l h5⟩
  | .ref n, v, l, h => by
    simp only [Rep, Val.low, decide_eq_true_eq] at h l ⊢
    obtain ⟨a, h1, h2⟩ := h
    exact ⟨a, m.at_ n a l h1, h2⟩
  | .kls ns, v, _, h => by simp only [Rep] at h ⊢; exact h
theorem RepL.few (m : Fewer b ρ ρ') : ∀ (xs : List Val) (vs : List V), Val.lowL b xs = true → RepL K hid ρ H xs vs → RepL K hid ρ' H xs vs
  | [], vs, _, h => by simp only [RepL] at h ⊢; exact h
  | x :: xs, vs, l, h => by
    simp only [RepL, Val.lowL, Bool.and_eq_true] at h l ⊢
    obtain ⟨v, r, h1, h2, h3⟩ := h
    exact ⟨v, r, h1, ⟨h2.1, Rep.few m x v l.1 h2.2⟩, RepL.few m xs r l.2 h3⟩
theorem RepK.few (m : Fewer b ρ ρ') : ∀ (xs : List (Val × Val)) (ws : List (L2.Key × V)), Val.lowD b xs = true → RepK K hid ρ H xs ws → RepK K hid ρ' H xs ws
  | [], vs, _, h => by simp only [RepK] at h ⊢; exact h
  | (k, x) :: xs, vs, l, h => by
    simp only [RepK, Val.lowD, Bool.and_eq_true] at h l ⊢
    obtain ⟨v, r, h1, h4, h2, h3⟩ := h
    exact ⟨v, r, h1, h4, ⟨h2.1, Rep.few m x v l.1 h2.2⟩, RepK.few m xs r l.2 h3⟩
theorem RepT.few (m : Fewer b ρ ρ') : ∀ (xs : List (Val × Val)) (ws : List (List L2.Key × V)), Val.lowD b xs = true → RepT K hid ρ H xs ws → RepT K hid ρ' H xs ws
  | [], vs, _, h => by simp only [RepT] at h ⊢; exact h
  | (k, x) :: xs, vs, l, h => by
    simp only [RepT, Val.lowD, Bool.and_eq_true] at h l ⊢
    obtain ⟨v, r, h1, h4, h2, h3⟩ := h
    exact ⟨v, r, h1, h4, ⟨h2.1, Rep.few m x v l.1 h2.2⟩, RepT.few m xs r l.2 h3⟩
end
theorem ObRep.few (m : Fewer b ρ ρ') {a : Addr} : ∀ {o : Ob}, o.low b = true → ObRep K hid ρ H a o → ObRep K hid ρ' H a o
  | .lst xs, l, ⟨vs, h1, h2⟩ => ⟨vs, h1, RepL.few m xs vs l h2⟩
  | .dic true xs, l, ⟨vs, h1, h2⟩ => ⟨vs, h1, RepT.few m xs vs l h2⟩
  | .dic false xs, l, ⟨vs, h1, h2⟩ => ⟨vs, h1, RepK.few m xs vs l h2⟩
theorem fewer_app {new : List Addr} (hb : ρ.length = b) : Fewer b (ρ ++ new) ρ :=
  ⟨fun n a hn q => by rwa [List.getElem?_append_left (by omega)] at q, fun a h z => h (List.mem_append_left _ z)⟩
theorem fewer_app1 {new : List Addr} {a : Addr} (hb : ρ.length = b) (ha : a ∈ new) : Fewer b (ρ ++ new) (ρ ++ [a]) :=
  ⟨fun n c hn q => by rw [List.getElem?_append_left (by omega)] at q ⊢; exact q, fun c h z => by
    rcases List.mem_append.mp z with z | z
    · exact h (List.mem_append_left _ z)
    · rw [List.mem_singleton.mp z] at h; exact h (List.mem_append_right _ ha)⟩
theorem fewer_app2 {new : List Addr} {a : Addr} (hb : ρ.length = b) : Fewer b (ρ ++ new ++ [a]) (ρ ++ [a]) :=
  ⟨fun n c hn q => by rw [List.append_assoc, List.getElem?_append_left (by omega)] at q; rw [List.getElem?_append_left (by omega)]; exact q, fun c h z => by
    rcases List.mem_append.mp z with z | z
    · exact h (List.mem_append_left _ (List.mem_append_left _ z))
    · exact h (List.mem_append_right _ z)⟩
/-- the first cells -/
theorem SOk.first {new : List Addr} {S : Sto} (s : SOk K hid (ρ ++ new) H S) (hb : ρ.length = b) (l : LowAt b S) : SOk K hid ρ H (S.take b) := by
  refine ⟨by rw [List.length_take]; have := l.1; omega, (List.nodup_append.mp s.nd).1, fun a ha => s.apart a (List.mem_append_left _ ha), s.hidd, fun n ob q => ?_⟩
  have hn : n < b := by
    have := (List.getElem?_eq_some_iff.mp q).1
    rw [List.length_take] at this
    omega
  rw [List.getElem?_take_of_lt hn] at q
  obtain ⟨a, h1, h2⟩ := s.ob n ob q
  rw [List.getElem?_append_left (by omega)] at h1
  exact ⟨a, h1, h2.few (fewer_app hb) (l.2 n ob hn q)⟩
/-- the first cells and one more -/
theorem SOk.firstAnd {ρ1 : List Addr} {S : Sto} {a : Addr} {ob : Ob} (s : SOk K hid ρ1 H S) (m : Fewer b ρ1 (ρ ++ [a])) (hb : ρ.length = b) (ma : a ∈ ρ1) (na : a ∉ ρ) (nd : ρ.Nodup) (ap : ∀ c ∈ ρ, c ∈ ρ1) (l : LowAt b S) (h : ObRep K hid ρ1 H a ob) (lo : ob.low b = true) :
    SOk K hid (ρ ++ [a]) H (S.take b ++ [ob]) := by
  have hl : (S.take b).length = b := by rw [List.length_take]; have := l.1; omega
  refine ⟨by simp [hb, hl], ?_, ?_, s.hidd, fun n o q => ?_⟩
  · rw [List.nodup_append]
    exact ⟨nd, by simp, fun x hx y hy => by
      rw [List.mem_singleton] at hy
      subst hy
      exact fun z => na (z ▸ hx)⟩
  · intro c hc
    rcases List.mem_append.mp hc with hc | hc
    · exact s.apart c (ap c hc)
    · rw [List.mem_singleton.mp hc]; exact s.apart a ma
  · by_cases hn : n < b
    · rw [List.getElem?_append_left (by omega), List.getElem?_take_of_lt hn] at q
      obtain ⟨c, h1, h2⟩ := s.ob n o q
      exact ⟨c, m.at_ n c hn h1, h2.few m (l.2 n o hn q)⟩
    · have hn2 : n = b := by
        have := (List.getElem?_eq_some_iff.mp q).1
        simp [hl] at this
        omega
      subst hn2
      rw [List.getElem?_append_right (by omega)] at q
      simp [hl] at q
      subst q
      refine ⟨a, ?_, h.few m lo⟩
      rw [List.getElem?_append_right (by omega)]
      simp [hb]
end
section
variable {K : PySem.W.Frag} {hid ρ : List Addr} {H : Hp} {S : Sto}
/-- what is handed back -/
theorem freeze1_ok {ρ' new : List Addr} {H0 H' : Hp} {S' : Sto} {v v' : Val} {u : V} (eρ : ρ' = ρ ++ new) (hn : ∀ a ∈ new, H0 a = none) (s : SOk K hid ρ' H' S') (l : LowAt ρ.length S') (e : freeze1 ρ.length S' v = some v') (r : Rep K hid ρ' H' v u) (fr : Fresh K hid ρ' H' S' H0 v u) :
    Rep K hid ρ H' v' u ∧ Fresh K hid ρ H' (S'.take ρ.length) H0 v' u := by
  subst eρ
  have nd := (List.nodup_append.mp s.nd).1
  have nn : ∀ a ∈ new, a ∉ ρ := fun a ha z => (List.nodup_append.mp s.nd).2.2 a z a ha rfl
  have mem : ∀ c ∈ ρ, c ∈ ρ ++ new := fun c hc => List.mem_append_left _ hc
  have val : v.low ρ.length = true → some v = some v' → Rep K hid ρ H' v' u ∧ Fresh K hid ρ H' (S'.take ρ.length) H0 v' u := fun lo e => by
    cases e
    refine ⟨Rep.few (fewer_app rfl) _ _ lo r, ?_⟩
    unfold Fresh at fr ⊢
    split
    · rename_i xs
      obtain ⟨a, h1, h2, h3⟩ := fr
      refine ⟨a, h1, h2, ?_⟩
      have hl := h3.len
      have na : a ∉ ρ ++ new := fun z => (List.nodup_append.mp h3.nd).2.2 a z a (by simp) rfl
      obtain ⟨c, q1, q2⟩ := h3.ob S'.length (.lst xs) (by simp)
      have hc : c = a := by
        rw [← s.len, List.getElem?_append_right (Nat.le_refl _)] at q1
        simp at q1
        exact q1.symm
      subst hc
      have l2 : LowAt ρ.length (S' ++ [Ob.lst xs]) := l.push
      have := h3.firstAnd (fewer_app2 rfl) rfl (by simp) (fun z => na (mem _ z)) nd (fun c hc => List.mem_append_left _ (mem c hc)) l2 q2 (by simpa only [Val.low, Ob.low] using lo)
      rw [List.take_append_of_le_length l.1] at this
      exact this
    · rename_i t kvs
      obtain ⟨a, h1, h2, h3⟩ := fr
      refine ⟨a, h1, h2, ?_⟩
      have na : a ∉ ρ ++ new := fun z => (List.nodup_append.mp h3.nd).2.2 a z a (by simp) rfl
      obtain ⟨c, q1, q2⟩ := h3.ob S'.length (.dic t kvs) (by simp)
      have hc : c = a := by
        rw [← s.len, List.getElem?_append_right (Nat.le_refl _)] at q1
        simp at q1
        exact q1.symm
      subst hc
      have l2 : LowAt ρ.length (S' ++ [Ob.dic t kvs]) := l.push
      have := h3.firstAnd (fewer_app2 rfl) rfl (by simp) (fun z => na (mem _ z)) nd (fun c hc => List.mem_append_left _ (mem c hc)) l2 q2 (by simpa only [Val.low, Ob.low] using lo)
      rw [List.take_append_of_le_length l.1] at this
      exact this
    · trivial
  unfold freeze1 at e
  split at e
  · rename_i n
    split at e
    · rename_i hlt
      exact val (by simpa only [Val.low, decide_eq_true_eq] using hlt) e
    · rename_i hge
      split at e
      · rename_i xs hq
        split at e
        · rename_i lo
          cases e
          obtain ⟨a, ea, ha, hob⟩ := s.cell r hq
          subst ea
          have ha' : a ∈ new := by
            rw [List.getElem?_append_right (by omega)] at ha
            exact List.mem_of_getElem? ha
          have lo' : (Ob.lst xs).low ρ.length = true := lo
          have hob' := hob.few (fewer_app (ρ := ρ) rfl) lo'
          obtain ⟨vs, q1, q2⟩ := hob'
          refine ⟨?_, a, rfl, hn a ha', s.firstAnd (fewer_app1 rfl ha') rfl (List.mem_append_right _ ha') (nn a ha') nd mem l hob lo⟩
          simp only [Rep]
          exact ⟨a, vs, rfl, q1, nn a ha', s.apart a (List.mem_append_right _ ha'), q2⟩
        · cases e
      · rename_i t kvs hq
        split at e
        · rename_i lo
          cases e
          obtain ⟨a, ea, ha, hob⟩ := s.cell r hq
          subst ea
          have ha' : a ∈ new := by
            rw [List.getElem?_append_right (by omega)] at ha
            exact List.mem_of_getElem? ha
          have lo' : (Ob.dic t kvs).low ρ.length = true := lo
          have hob' := hob.few (fewer_app (ρ := ρ) rfl) lo'
          refine ⟨?_, a, rfl, hn a ha', s.firstAnd (fewer_app1 rfl ha') rfl (List.mem_append_right _ ha') (nn a ha') nd mem l hob lo⟩
          cases t with
          | true =>
            obtain ⟨vs, q1, q2⟩ := hob'
            simp only [Rep]
            exact ⟨a, vs, rfl, q1, nn a ha', s.apart a (List.mem_append_right _ ha'), q2⟩
          | false =>
            obtain ⟨vs, q1, q2⟩ := hob'
            simp only [Rep]
            exact ⟨a, vs, rfl, q1, nn a ha', s.apart a (List.mem_append_right _ ha'), q2⟩
        · cases e
      · cases e
  · split at e
    · rename_i lo
      exact val lo e
    · cases e
theorem freezeL_ok {ρ' new : List Addr} {H0 H' : Hp} {S' : Sto} (eρ : ρ' = ρ ++ new) (hn : ∀ a ∈ new, H0 a = none) (s : SOk K hid ρ' H' S') (l : LowAt ρ.length S') : ∀ {xs ys : List Val} {us : List V}, freezeL ρ.length S' xs = some ys → RepL K hid ρ' H' xs us → RepL K hid ρ H' ys us
  | [], ys, us, e, r => by
    simp only [freezeL, Option.some.injEq] at e
    subst e
    simp only [RepL] at r ⊢
    exact r
  | x :: xs, ys, us, e, r => by
    simp only [freezeL] at e
    split at e
    · rename_i y zs h1 h2
      cases e
      simp only [RepL] at r
      obtain ⟨v, w, ev, rx, rr⟩ := r
      subst ev
      exact .cons ⟨st_settle y, (freeze1_ok eρ hn s l h1 rx.2 (.of_st rx.1)).1.settle⟩ (freezeL_ok eρ hn s l h2 rr)
    · cases e
theorem freeze_ok {ρ' new : List Addr} {H0 H' : Hp} {S' : Sto} {v v' : Val} {u : V} (eρ : ρ' = ρ ++ new) (hn : ∀ a ∈ new, H0 a = none) (s : SOk K hid ρ' H' S') (l : LowAt ρ.length S') (e : freeze ρ.length S' v = some v') (r : Rep K hid ρ' H' v u) (fr : Fresh K hid ρ' H' S' H0 v u) :
    Rep K hid ρ H' v' u ∧ Fresh K hid ρ H' (S'.take ρ.length) H0 v' u := by
  unfold freeze at e
  split at e
  · split at e
    · rename_i ys hy
      cases e
      simp only [Rep] at r ⊢
      obtain ⟨a, vs, h1, h2, h3⟩ := r
      exact ⟨⟨a, vs, h1, h2, freezeL_ok eρ hn s l hy h3⟩, trivial⟩
    · cases e
  · exact freeze1_ok eρ hn s l e r fr
theorem Ext.back {new : List Addr} {H' : Hp} (e : Ext ρ H (ρ ++ new) H') : Ext ρ H ρ H' := ⟨⟨[], by simp, by simp⟩, e.keep, e.there, e.tups, e.frzs⟩
theorem finish_ok {r : R (Fl × Env)} {Q : VK} (hs : SOk K hid ρ H S) (kp : KeepR S.length r) (h : Out K hid ρ H (finish S.length r) (Gv K hid H Q)) : Out K hid ρ H r (Fin K hid H { nx := fun _ H' => Q .non H', rt := Q }) := by
  cases r with
  | bad => exact h.elim
  | exc _ _ _ => exact h.elim
  | ok f S' =>
    intro ρ' H' e s
    obtain ⟨new, eρ, hn⟩ := e.more
    obtain ⟨f, env⟩ := f
    have kp' : LowAt S.length S' := kp
    rw [← hs.len] at kp' h
    cases f with
    | bk => exact h.elim
    | ct => exact h.elim
    | nx =>
      intro σ' hE
      subst eρ
      exact h ρ H' e.back (s.first rfl kp') .non .of_non trivial
    | rt v =>
      intro u ru fu
      simp only [finish] at h
      split at h
      · exact h ρ' H' e s u ru fu
      · obtain ⟨v', hv, h2⟩ := h.of
        obtain ⟨q1, q2⟩ := freeze_ok eρ hn s kp' hv ru fu
        subst eρ
        exact h2 ρ H' e.back (s.first rfl kp') u q1 q2
/-- a def of the text, its body told by the evaluator's -/
theorem fn_okQ {P : Program} {w : World} {mg : Str → Option Value} {base : Heap} {x qual : Str} {st : Stmt} {fa : Addr} {fd : FuncData} {N ps : List Str} {k f : Nat} {PG : Prog} {d : Def} (F : Fun K x qual st fa fd) (SC : FnScope N ps (defScope st)) (hd : PG.fns[f]? = some d) (ha : d.arity = ps.length) (hz : d.size = N.length)
    (hbody : ∀ (cdv : Value) (A : Around) (outer : List PySem.Env) (s : Shared) (H : Hp) (E : XK) (b : Nat), Room k (A.deeper (envOfC qual (defScope st) s.heap.objs.size fa cdv)) →
      PSs (cxOf CX0 P w K mg base N qual (defScope st) fa cdv A outer s H E).nox (defBody st) (tSs K { call := callFn PG k, con := fun i => PG.con[i]?, base := b, fuel := PG.fuel } d.body)) :
    FnOk P w K mg base CX0 (k + 1) fa fd ps (spF K (callFn PG (k + 1)) f) := by
  refine F.ok SC (fun vs H Q E h => ?_) fun cdv A outer s H vs Q E hr h => ?_
  · obtain ⟨hid, ρ, S, xs, hs, rl, o⟩ := h
    simp only [callFn, hd] at o
    split at o
    · rename_i hl
      rw [rl.length, hl, ha]
    · exact o.elim
  · obtain ⟨hid, ρ, S, xs, hs, rl, o⟩ := h
    simp only [callFn, hd] at o
    split at o
    · rename_i hl
      refine ⟨_, hbody cdv A outer s H E S.length hr, hid, ρ, _, S, ?_, hs, finish_ok hs (keepSs (c := { call := callFn PG k, con := fun i => PG.con[i]?, base := S.length, fuel := PG.fuel }) (Nat.le_refl _) (fun f vs S h => keepFn k f vs S h) d.body _ S hs.lowAt) o⟩
      have lv := rl.length
      refine ⟨by simp [L2.start, lv, hz, hl, ha], fun i y q => ?_⟩
      have hi : i < xs.length := by
        by_cases hi : i < xs.length
        · exact hi
        · rw [List.getElem?_append_right (by simpa using hi)] at q
          have := List.mem_of_getElem? q
          rw [List.mem_replicate] at this
          cases this.2
      rw [List.getElem?_append_left (by simpa using hi)] at q
      have q : xs[i]? = some y := by simpa using q
      obtain ⟨v, h1, h2⟩ := rl.get q
      refine ⟨v, ?_, h2⟩
      unfold L2.start
      rw [List.getElem?_append_left (by simp [lv, hi])]
      simp [h1]
    · exact o.elim
end
end QE

set_option Elab.async false
set_option linter.all false
set_option maxRecDepth 10000
set_option maxHeartbeats 1000000
/-! Dict comprehensions, the keys plain or tuples. -/
namespace QE
open PySem PySem.Spec PyProof.Rows L2
section
variable {X : Cx}
/-- a pair goes into a dict of either kind -/
theorem put_ok {pins : List (Addr × Obj)} {σ : L2.St} {H H' : Hp} {s : Shared} {E : Value → Shared → Prop} {D : Addr} {y z : V} {yv zv : Value} {Q : Unit → Shared → Prop} (hu : X.A.units + 1 < cLine) (I : Inv X pins σ H s) (g : DPut H D y z H') (ry : RelV y yv) (rz : RelV z zv)
    (k : ∀ s', Inv X pins σ H' s' → Q () s') : wpAny (model X.prog X.w) X.A (dictSet D yv zv) Q E s := by
  rcases g with ⟨kvs, key, e, ey, l, eH⟩ | ⟨kvs, key, b, e, ey, eb, l, eH⟩
  · subst ey eH
    exact d_dictSet I e l ry rz k
  · subst ey eH
    cases (show yv = Value.ref b from ry)
    obtain ⟨hz0, hd, qs, rel, dd⟩ := dt_of I.hok e
    have hz : qs.length ≤ sizeLine := by rw [← Paired.length rel]; exact hz0
    have hl : (putK kvs key z).length ≤ sizeLine := by have := length_putK kvs key z; omega
    refine wpAny_dictSet_heap (hsz := hz) (knd := tupleKind (mixKind X.prog X.w)) (Nat.lt_of_succ_lt hu) (key_of I.hok eb) dd fun h' dd' hs => k _ ?_
    obtain ⟨q, es, ep, hq, k2, k3, k4, _, k5⟩ := dd'
    refine d_write I (by rw [e]; exact True.intro) hs ⟨q, hq⟩ ⟨hl, hd, _, (rel.put key eb rz).keeps fun c ys ec => ?_, q, es, ep, hq, k2, k3, k4, k5⟩
    rw [upd_ne (L2.ne_of ec e (fun z => nomatch z))]
    exact ec
/-- {k: v for target in iter}: the dict at D from o0 on -/
def tDq (wi : TI) (g : TG) (tk tv : TE) (vs : List Nat) (o0 : HO) : TE := fun σ H Q => wi σ H fun J H1 => ∀ D, H1 D = none → ∃ W : Nat → Nat → Hp → Prop, (∃ m, W 0 m (upd H1 D o0)) ∧ ∀ i m H2, W i m H2 →
  (J.stop i H2 ∧ Q (.ref D) H2) ∨ (J.go i H2 ∧ ∃ Nx : Hp → Prop, (∀ H', Nx H' → ∃ m', m' < m ∧ W (i + 1) m' H') ∧ ∀ x H', J.yld i H2 x H' → g x (L2.wipe σ vs) H' fun σ2 H3 => L2.wipe σ2 vs = L2.wipe σ vs ∧
    tk σ2 H3 fun y H4 => tv σ2 H4 fun z H5 => ∃ H6, DPut H5 D y z H6 ∧ Nx H6)
/-- an empty dict of either kind -/
def Empty (o0 : HO) : Prop := o0 = .dK [] ∨ o0 = .dT []
theorem empty_ok {o0 : HO} (e : Empty o0) {P : Program} {w : World} {H : Hp} (h : Heap) (hb : sysModules < h.objs.size) : ObjOk P w H (h.push { cls := .type "dict", data := .dict #[] }) h.objs.size o0 := by
  rcases e with rfl | rfl
  · exact dk_empty h hb
  · exact dt_empty h hb
theorem dq_core {pins : List (Addr × Obj)} {s : Shared} {σ : L2.St} {H : Hp} {Q : VK} {kx vx tg iter : Expr} {scope : Scope} {own : List (Str × Nat)} {pos pos' : Pos} {wi : TI} {g : TG} {tk tv : TE} {o0 : HO} {use : Option (Value → Sem Unit)} {Qf : Value → Shared → Prop}
    (ho : Empty o0) (hu : X.A.units + 1 < cLine) (hc : X.calm = true) (hN : X.N.Nodup) (I : Inv X pins σ H s) (hi : PI X tg iter wi) (ok : BlkOk X.N X.env.scope scope own)
    (hg : ∀ (z : Shared) (G : Hp) (C : Addr) (cl : List (Str × Addr)) (fp : List Addr), PG (X.blk z G scope (compEnvC scope cl C X.env) fp) tg g)
    (hk : ∀ (z : Shared) (G : Hp) (C : Addr) (cl : List (Str × Addr)) (fp : List Addr), PE (X.blk z G scope (compEnvC scope cl C X.env) fp) kx tk)
    (he : ∀ (z : Shared) (G : Hp) (C : Addr) (cl : List (Str × Addr)) (fp : List Addr), PE (X.blk z G scope (compEnvC scope cl C X.env) fp) vx tv) (hs : ∀ x, foldedSetIterable iter X.env x = pure x)
    (h : tDq wi g tk tv (own.map (·.2)) o0 σ H Q)
    (post : ∀ D C z m G, Inv X pins σ G z → Q (.ref D) G → z.heap.Ns C m → FpOk X pins G C → compPost (model X.prog X.w) X.A X.xe use Qf (.ref D) C (.ok .next) z) :
    wpAny (model X.prog X.w) X.A (comprehension (.DictComp kx vx [⟨tg, iter, [], 0⟩] scope pos) scope X.env pos' newDict false (eval iter X.env) use) Qf X.xe s := by
  have cap : ∀ y ∈ scope.names, y.2 = .free → ∃ c, X.env.cells.lookup y.1 = some c := fun y hy e => (ok.free y hy e).elim (fun k => I.ok.has _ (.inl k)) fun k => I.ok.has _ (.inr k)
  refine wpAny_comprehension_free (use := use) rfl hs (closure_ok cap) ok.kind (fun y hy e => by rw [ok.uniq y hy, e])
    (thn (hi.run pins s σ H _ I h) fun xv z1 hx => thn hx fun itv z2 hit => ?_)
  obtain ⟨it, fp, tn, J, G2, e, J2, T, at0, fr2, q⟩ := hit
  subst e
  refine wpAny_newObj_type (newEnv_comp ?_)
  generalize hD : z2.heap.objs.size = D
  have Dn : G2 D = none := J2.hok.fresh (Nat.le_of_eq hD)
  obtain ⟨W, ⟨m0, w0⟩, turn⟩ := q D Dn
  generalize hz3 : ({ z2 with heap := z2.heap.push { cls := .type "dict", data := .dict #[] } } : Shared) = z3
  have J3 : Inv X pins σ (upd G2 D o0) z3 := by
    rw [← hz3]
    refine J2.laid (t' := z2.toks) (fun b o e => Heap.get?_push_of_some _ e) (Nat.le_of_eq hD) ?_
    rw [← hD]
    exact empty_ok ho z2.heap J2.big
  have hp3 : z3.heap = z2.heap.push { cls := .type "dict", data := .dict #[] } := by rw [← hz3]
  have fr3 : ∀ b ∈ fp, FpOk X pins (upd G2 D o0) b ∧ b < z3.heap.objs.size := fun b hb => by
    obtain ⟨ob, eb, _⟩ := T.obj _ _ at0 b hb
    have lt := Heap.lt_size eb
    refine ⟨⟨?_, (fr2 b hb).2⟩, by rw [hp3, Heap.size_push]; exact Nat.lt_succ_of_lt lt⟩
    rw [upd_ne (by rw [← hD]; exact Nat.ne_of_lt lt)]
    exact (fr2 b hb).1
  have at3 : tn 0 z3.heap := T.keep _ _ _ at0 fun b _ o e => by rw [hp3]; exact Heap.get?_push_of_some _ e
  have J4 := block_start J3 ok hN fr3
  generalize hcl : cellsFrom (z3.heap.objs.size + 1) scope.names (cloFrom X.env.cells scope.names []) = cls at J4 ⊢
  have pg := hg z3 (upd G2 D o0) z3.heap.objs.size cls fp
  have pk := hk z3 (upd G2 D o0) z3.heap.objs.size cls fp
  have pv := he z3 (upd G2 D o0) z3.heap.objs.size cls fp
  show codeAny _ _ (.compStart (.DictComp kx vx [⟨tg, iter, [], 0⟩] scope pos) 0 (.ref it) (.ref D) (compEnvC scope cls z3.heap.objs.size X.env)) _ { z3 with heap := pushCells (z3.heap.push { cls := .type "dict", data := .dict #[] }) scope.names }
  have nf3 : ∀ b ∈ fp, (upd G2 D o0) b = none := fun b hb => (fr3 b hb).1.1
  generalize hce : compEnvC scope cls z3.heap.objs.size X.env = ce at J4 pg pk pv ⊢
  have hloc : ce.locals = z3.heap.objs.size := by subst hce; rfl
  generalize hG3 : upd G2 D o0 = G3 at J3 J4 pg pk pv w0 nf3 fr3
  generalize hz4 : ({ z3 with heap := pushCells (z3.heap.push { cls := .type "dict", data := .dict #[] }) scope.names } : Shared) = z4 at J4 ⊢
  have at4 : tn 0 z4.heap := T.keep _ _ _ at3 fun b _ o e => by rw [← hz4]; exact pushCells_keeps _ _ _ _ (Heap.get?_push_of_some _ e)
  have own' : ∀ {σ' : L2.St} {H' : Hp} {s' : Shared}, Inv (X.blk z3 G3 scope ce fp) [] σ' H' s' → (∀ b ∈ fp, H' b = none) → ∀ b ∈ fp, FpOk (X.blk z3 G3 scope ce fp) [] H' b := fun {σ' H' s'} I' hn b hb =>
    ⟨hn b hb, (I'.ok.exf b hb).1, I'.ok.exfs b hb, .inl hb, fun x c e => (I'.ok.exf b hb).2 x c e, fun p hp => absurd (show p ∈ ([] : List (Addr × Obj)) ++ [] from hp) (by simp)⟩
  refine codeAny_compStart_dict ?_ (T.self X.A 0 _ _ _ at4 ?_)
  all_goals
    refine compLoop_anyD (fun n s' => ∃ i H', Inv (X.blk z3 G3 scope ce fp) [] (L2.wipe σ (own.map (·.2))) H' s' ∧ tn i s'.heap ∧ (∀ b ∈ fp, H' b = none) ∧ W i n H') ?_ m0 ⟨0, G3, J4, at4, nf3, w0⟩
    rintro n z5 ⟨i, G5, J5, at5, nf5, w5⟩
    rcases turn i n G5 w5 with ⟨stop, qq⟩ | ⟨go, Nx, hNx, step⟩
    · refine thnF (T.done (X.blk z3 G3 scope ce fp) rfl rfl rfl hc i [] z5 _ G5 (fun _ _ => False) J5 (own' J5 nf5) at5 stop) fun r z6 ⟨hr, J6⟩ => ?_
      subst hr
      have J7 : Inv X pins σ G5 z6 := J3.call' (ch := fp) J6.os J6.base J6.hok J6.bare fun b hb => ⟨(fr3 b hb).1.2.2.2.1, (fr3 b hb).1.2.1, (fr3 b hb).1.2.2.2.2.1, (fr3 b hb).1.2.2.2.2.2⟩
      have nC : G5 z3.heap.objs.size = none := hloc ▸ J6.free
      obtain ⟨m, hm, _⟩ := J6.loc
      have hm : z6.heap.Ns ce.locals m := hm
      rw [hloc] at hm
      exact post D z3.heap.objs.size z6 m G5 J7 qq hm (J3.fpOk (Nat.le_refl _) nC)
    · refine thnF (T.item (X.blk z3 G3 scope ce fp) rfl rfl rfl hc i [] z5 _ G5 (fun _ _ => False) J5 (own' J5 nf5) at5 go) fun r z6 ⟨u, hr, h6⟩ => ?_
      subst hr
      refine thnF h6 fun _ z7 ⟨x, G7, J7, rx, yx, at7, nf7⟩ => ?_
      have J7' := J7.pinned (own' J7 nf7) (T.obj _ _ at7)
      refine thnF (pg.run _ z7 _ G7 x u _ J7' rx (step x G7 yx)) fun _ z8 ⟨σ8, G8, J8, hw8, q8⟩ => ?_
      refine wpAny_tests_nil ?_
      simp only [if_true]
      have fin : ∀ {s' : Shared} {H' : Hp}, Inv (X.blk z3 G3 scope ce fp) ([] ++ pinsAt fp z7.heap) σ8 H' s' → Nx H' → ∃ m, m < n ∧ ∃ i H', Inv (X.blk z3 G3 scope ce fp) [] (L2.wipe σ (own.map (·.2))) H' s' ∧ tn i s'.heap ∧ (∀ b ∈ fp, H' b = none) ∧ W i m H' := fun {s' H'} I' nx => by
        obtain ⟨m', hm, w'⟩ := hNx H' nx
        have pin' : ∀ b ∈ fp, ∀ o, z7.heap.get? b = some o → s'.heap.get? b = some o ∧ H' b = none := fun b hb o e =>
          let p := I'.pin (b, o) (List.mem_append_right _ (List.mem_append_right _ (mem_pinsAt hb e)))
          ⟨p.1, p.2.1⟩
        have hl : (L2.wipe σ (own.map (·.2))).length = σ8.length := by rw [← hw8, wipe_length]
        refine ⟨m', hm, i + 1, H', (I'.unpinned (pins := [])).weak hl (fun j v e => (wipe_some (hw8 ▸ e)).1), T.keep _ _ _ at7 fun b hb o e => (pin' b hb o e).1, fun b hb => ?_, w'⟩
        obtain ⟨o, e, _⟩ := T.obj _ _ at7 b hb
        exact (pin' b hb o e).2
      refine thnF (pk.run _ z8 σ8 G8 _ J8 q8) fun kv z9 ⟨yk, G9, J9, r9, q9⟩ => ?_
      refine thnF (pv.run _ z9 σ8 G9 _ J9 q9) fun vv z10 ⟨yv, G10, J10, r10, G11, dp, nx⟩ => ?_
      exact put_ok (X := X.blk z3 G3 scope ce fp) hu J10 dp r9 r10 fun z11 J11 => fin J11 nx
theorem pe_dq {kx vx tg iter : Expr} {scope : Scope} {own : List (Str × Nat)} {pos : Pos} {wi : TI} {g : TG} {tk tv : TE} {o0 : HO} (ho : Empty o0) (hu : X.A.units + 1 < cLine) (hc : X.calm = true) (hN : X.N.Nodup) (hi : PI X tg iter wi) (ok : BlkOk X.N X.env.scope scope own)
    (hg : ∀ (z : Shared) (G : Hp) (C : Addr) (cl : List (Str × Addr)) (fp : List Addr), PG (X.blk z G scope (compEnvC scope cl C X.env) fp) tg g)
    (hk : ∀ (z : Shared) (G : Hp) (C : Addr) (cl : List (Str × Addr)) (fp : List Addr), PE (X.blk z G scope (compEnvC scope cl C X.env) fp) kx tk)
    (he : ∀ (z : Shared) (G : Hp) (C : Addr) (cl : List (Str × Addr)) (fp : List Addr), PE (X.blk z G scope (compEnvC scope cl C X.env) fp) vx tv) (hs : ∀ x, foldedSetIterable iter X.env x = pure x) :
    PE X (.DictComp kx vx [⟨tg, iter, [], 0⟩] scope pos) (tDq wi g tk tv (own.map (·.2)) o0) := by
  refine ⟨fun pins s σ H Q I h => ?_⟩
  rw [arm_eval_DictComp]
  refine dq_core ho hu hc hN I hi ok hg hk he hs h fun D C z m G I' q hm f => ⟨m, hm, fun h'' sb => ?_⟩
  obtain ⟨f0, f1, f2, f3, f4, f5⟩ := f
  exact ⟨.ref D, G, I'.turned (t' := z.toks) (fun b o hb e => (sb.2 b hb).trans e) f0 f1 f3 f4 f5, rfl, q⟩
/-- name = {..} on one line, the name a local -/
theorem ps_setDq {i : Nat} {y : Str} {py : Pos} {kx vx tg iter : Expr} {scope : Scope} {own : List (Str × Nat)} {pos spos : Pos} {wi : TI} {g : TG} {tk tv : TE} {o0 : HO} (ho : Empty o0) (hu : X.A.units + 1 < cLine) (hc : X.calm = true) (hN : X.N.Nodup)
    (hy : X.N[i]? = some y) (hyl : X.env.scope.names.lookup y = some .local) (hsw : swapsWith (.DictComp kx vx [⟨tg, iter, [], 0⟩] scope pos) (some (.Name y py)) spos.line X.env = pure true) (hi : PI X tg iter wi) (ok : BlkOk X.N X.env.scope scope own)
    (hg : ∀ (z : Shared) (G : Hp) (C : Addr) (cl : List (Str × Addr)) (fp : List Addr), PG (X.blk z G scope (compEnvC scope cl C X.env) fp) tg g)
    (hk : ∀ (z : Shared) (G : Hp) (C : Addr) (cl : List (Str × Addr)) (fp : List Addr), PE (X.blk z G scope (compEnvC scope cl C X.env) fp) kx tk)
    (he : ∀ (z : Shared) (G : Hp) (C : Addr) (cl : List (Str × Addr)) (fp : List Addr), PE (X.blk z G scope (compEnvC scope cl C X.env) fp) vx tv) (hs : ∀ x, foldedSetIterable iter X.env x = pure x) :
    PS X (.Assign [.Name y py] (.DictComp kx vx [⟨tg, iter, [], 0⟩] scope pos) spos) (tAsg (tDq wi g tk tv (own.map (·.2)) o0) (gName i)) := by
  refine ⟨fun pins s σ H D I h => ?_⟩
  rw [exec_Assign_Name_used _ _ _ _ hsw]
  refine wpAny_bind (wpAny_standAt (wpAny_bind ?_))
  show wpAny _ X.A (do let _ ← comprehension (.DictComp kx vx [⟨tg, iter, [], 0⟩] scope pos) scope X.env (firstIterPos [⟨tg, iter, [], 0⟩] pos) newDict false (eval iter X.env) (some (assign (.Name y py) X.env))) _ _ s
  have h : tDq wi g tk tv (own.map (·.2)) o0 σ H (fun x H1 => gName i x σ H1 D.nx) := h
  refine wpAny_bind (thn (dq_core (Qf := fun _ s' => SP X pins D .next s') ho hu hc hN I hi ok hg hk he hs h fun L C z m G I' q hm f => ?_) fun _ s' hq => wpAny_pure (wpAny_pure hq))
  show wpAny _ _ (assign (.Name y py) X.env (.ref L)) _ _ _
  refine wpAny_assign_Name (store_ok2 (v := V.ref L) I' hN hy (.inl hyl) rfl (fun s2 I2 ⟨a, sb, ha⟩ => ?_) (.inr hyl))
  obtain ⟨f0, f1, f2, f3, f4, f5⟩ := f
  have apart : C ≠ a := by
    rcases ha with z | z
    · rw [z]; exact f1
    · exact fun e => f4 y a z e.symm
  exact ⟨m, hm.sameBut sb apart, fun h3 sb3 => ⟨_, G, I2.turned (t' := s2.toks) (fun b o hb e => (sb3.2 b hb).trans e) f0 f1 f3 f4 f5, q⟩⟩
theorem swD_true {kx vx : Expr} {gs : List Comprehension} {scope : Scope} {pos py : Pos} {y : Str} {l : Nat} {env : PySem.Env} (hk : env.scope.kind = .function) (hy : env.scope.names.lookup y = some .local) (hl : (py.line == pos.line) = true)
    (ha : (scope.names.any fun (n, k) => n == y && (k == .local || k == .cell)) = false) : swapsWith (.DictComp kx vx gs scope pos) (some (.Name y py)) l env = pure true := by
  have ky : env.kindOf y = some .local := hy
  have hb : env.blockKind = .function := by unfold Env.blockKind; rw [hk]; rfl
  unfold swapsWith
  simp only [hb, ky, ha, Expr.pos, hl]
  rfl
/-- what a dict of kind t holds -/
def DRep (K : PySem.W.Frag) (hid ρ : List Addr) (H : Hp) (t : Bool) (kvs : List (Val × Val)) (u : HO) : Prop := match t with
  | true => ∃ ws, u = .dT ws ∧ RepT K hid ρ H kvs ws
  | false => ∃ ws, u = .dK ws ∧ RepK K hid ρ H kvs ws
def emptyOf (t : Bool) : HO := if t then .dT [] else .dK []
theorem DRep.to {K : PySem.W.Frag} {hid ρ hid' ρ' : List Addr} {H H' : Hp} (m : RepTo hid ρ H hid' ρ' H') {t : Bool} {kvs : List (Val × Val)} {u : HO} (h : DRep K hid ρ H t kvs u) : DRep K hid' ρ' H' t kvs u := by
  cases t with
  | true => obtain ⟨ws, e, r⟩ := h; exact ⟨ws, e, RepT.to m _ _ r⟩
  | false => obtain ⟨ws, e, r⟩ := h; exact ⟨ws, e, RepK.to m _ _ r⟩
theorem DRep.mono {K : PySem.W.Frag} {hid ρ ρ' : List Addr} {H H' : Hp} (m : Ext ρ H ρ' H') {t : Bool} {kvs : List (Val × Val)} {u : HO} (h : DRep K hid ρ H t kvs u) : DRep K hid ρ' H' t kvs u := by
  cases t with
  | true => obtain ⟨ws, e, r⟩ := h; exact ⟨ws, e, RepT.mono m _ _ r⟩
  | false => obtain ⟨ws, e, r⟩ := h; exact ⟨ws, e, RepK.mono m _ _ r⟩
theorem DRep.put {K : PySem.W.Frag} {hid ρ : List Addr} {H : Hp} {D : Addr} {t : Bool} {kvs : List (Val × Val)} {u : HO} {k x : Val} {y v : V} (h : DRep K (D :: hid) ρ H t kvs u) (hD : H D = some u) (hl : kvs.length < lim) (hk : k.isKey t = true) (rk : Rep K (D :: hid) ρ H k y)
    (rx : x.st = true ∧ Rep K (D :: hid) ρ H x v) : ∃ u', DPut H D y v (upd H D u') ∧ DRep K (D :: hid) ρ (upd H D u') t (dPut k x kvs) u' ∧ ∀ xs, u ≠ .tup xs := by
  cases t with
  | true =>
    obtain ⟨ws, e, r⟩ := h
    subst e
    obtain ⟨ks, e2, h3⟩ := isKey_true hk
    subst e2
    obtain ⟨c, us, e3, h5, r5⟩ := rk.tup_
    have h6 := flatKeys_rep h3 r5
    subst e3 h6
    refine ⟨.dT (putK ws (ks.map keyOf) v), DPut.t hD h5 (by rw [r.length, ← lim_eq]; exact hl), ⟨_, rfl, ?_⟩, fun _ z => nomatch z⟩
    exact RepT.to (to_over hD (fun _ z => nomatch z)) _ _ (RepT.put hk rx r)
  | false =>
    obtain ⟨ws, e, r⟩ := h
    subst e
    have h3 : k.flatKey = true := by simpa [Val.isKey] using hk
    have h6 := flatKey_rep h3 rk
    subst h6
    refine ⟨.dK (putK ws (keyOf k) v), DPut.k hD (by rw [r.length, ← lim_eq]; exact hl), ⟨_, rfl, ?_⟩, fun _ z => nomatch z⟩
    exact RepK.to (to_over hD (fun _ z => nomatch z)) _ _ (RepK.put h3 rx r)
theorem dMap_len (k v : Val) : ∀ kvs : List (Val × Val), (dMap k v kvs).length = kvs.length
  | [] => rfl
  | (q, u) :: r => by simp only [dMap, List.length_cons, dMap_len k v r]
theorem dPut_len (k v : Val) (kvs : List (Val × Val)) : (dPut k v kvs).length ≤ kvs.length + 1 := by
  unfold dPut
  split
  · rw [dMap_len]; omega
  · simp
theorem dc_read {c : Ctx} {own : List Nat} {tg : T} {src : Src} {t : Bool} {ek ev : E} (hown : ∀ i ∈ tgN tg, i ∈ own) {σ : L2.St} {H : Hp} {Q : VK} (h : tE X.K c (.dcomp own tg src t ek ev) σ H Q) :
    tDq (tI X.K c src) (tG X.K tg) (tE X.K c ek) (tE X.K c ev) own (emptyOf t) σ H Q := by
  obtain ⟨hid, ρ, env, S, hE, hs, h⟩ := h
  simp only [evalE] at h
  obtain ⟨xs, S1, q, hk⟩ := h.bind
  refine ⟨hid, ρ, env, S, hE, hs, ?_⟩
  rw [q]
  intro ρ1 H1 e1 s1 J w D hD
  obtain ⟨ys, S', q2, hk2⟩ := (hk ρ1 H1 e1).bind
  have q2 := calm_ok q2
  have hlim : xs.length ≤ lim := by
    have := hk2 ρ1 H1 (Ext.refl _ _)
    split at this
    · assumption
    · exact this.elim
  have wk := (w.hide0 hD).walk
  let Pv : Nat → Hp → Prop := fun i H2 => ∃ ρ2 S2 acc u, H2 D = some u ∧ DRep X.K (D :: hid) ρ2 H2 t acc u ∧ SOk X.K (D :: hid) ρ2 H2 S2 ∧ Ext ρ1 H1 ρ2 H2 ∧
    dcompLoop tg t (evalE c ek) (evalE c ev) (QE.wipe env own) (xs.drop i) acc S2 = .ok ys S' ∧ acc.length ≤ i
  have step : ∀ i v H2 H3, i < xs.length → Pv i H2 → YR X.K (D :: hid) ρ1 H1 xs i H2 v H3 → tG X.K tg v (L2.wipe σ own) H3 fun σ2 H4 => L2.wipe σ2 own = L2.wipe σ own ∧
      tE X.K c ek σ2 H4 fun y H5 => tE X.K c ev σ2 H5 fun z H6 => ∃ H7, DPut H6 D y z H7 ∧ Pv (i + 1) H7 := by
    intro i v H2 H3 hi p y
    obtain ⟨ρ2, S2, acc, u, hD2, racc, hs2, e2, hcl, hal⟩ := p
    obtain ⟨x, hx, e3, hs3, st, rx⟩ := y ρ2 S2 e2 hs2
    have hd : xs.drop i = x :: xs.drop (i + 1) := by
      rw [List.drop_eq_getElem_cons hi]
      rw [List.getElem?_eq_getElem hi] at hx
      cases hx
      rfl
    rw [hd, dcompLoop] at hcl
    cases hb : bindT tg x (QE.wipe env own) with
    | none => rw [hb] at hcl; cases hcl
    | some env' =>
      rw [hb] at hcl
      obtain ⟨k, S3, qk, hcl⟩ := bind_ok hcl
      obtain ⟨z, S4, qe, hcl⟩ := bind_ok hcl
      split at hcl
      · rename_i hkey
        have dn : D ∉ ρ2 := fun z => hs2.apart D z (by simp)
        have hE3 : ERep X.K (D :: hid) ρ2 H3 (QE.wipe env own) (L2.wipe σ own) := ((((hE.mono e1).hide0 hD).mono e2).mono e3).wipe own
        refine ⟨D :: hid, ρ2, QE.wipe env own, S2, x, env', hE3, hs3, rx, hb, fun σ' hE' hw => ⟨by rw [hw own hown, wipe_wipe], D :: hid, ρ2, env', S2, hE', hs3, ?_⟩⟩
        rw [qk]
        intro ρ5 H5 e5 s5 kv rk frk
        have dn5 : D ∉ ρ5 := fun z => s5.apart D z (by simp)
        refine ⟨D :: hid, ρ5, env', S3, hE'.mono e5, s5, ?_⟩
        rw [qe]
        intro ρ6 H6 e6 s6 zv rz frz
        have hD6 : H6 D = some u := e6.keep _ _ (e5.keep _ _ (e3.keep _ _ hD2 dn) dn) dn5
        obtain ⟨u', dp, dr, nt⟩ := (DRep.mono ((e3.trans e5).trans e6) racc).put hD6 (by omega) hkey (Rep.mono e6 _ _ rk) ⟨st_settle z, rz.settle⟩
        have := dPut_len k z.settle acc
        exact ⟨_, dp, ρ6, S4, _, u', upd_same, dr, s6.over hD6 nt, (((e2.trans e3).trans e5).trans e6).over hD, hcl, by omega⟩
      · cases hcl
  have start : Pv 0 (upd H1 D (emptyOf t)) := ⟨ρ1, S1, [], emptyOf t, upd_same, by cases t <;> exact ⟨[], rfl, by simp [RepT, RepK]⟩, s1.hide hD, Ext.new hD, by simpa using q2, Nat.le_refl _⟩
  have fin : ∀ H2, Pv xs.length H2 → Q (.ref D) H2 := by
    intro H2 p
    obtain ⟨ρ2, S2, acc, u, hD2, racc, hs2, e2, hcl, hal⟩ := p
    rw [List.drop_length, dcompLoop] at hcl
    cases hcl
    have h9 := hk2 ρ2 H2 e2
    rw [if_pos hlim] at h9
    have dn : D ∉ ρ2 := fun z => hs2.apart D z (by simp)
    have dh : D ∉ hid := s1.new2 hD
    cases t with
    | true =>
      obtain ⟨ws, eu, r⟩ := racc
      subst eu
      refine h9.pure hs2.seen (.ref D) ?_ ⟨D, rfl, e1.free hD, hs2.take dh ⟨ws, hD2, r⟩⟩
      simp only [Rep]
      exact ⟨D, ws, rfl, hD2, dn, dh, RepT.seen _ _ r⟩
    | false =>
      obtain ⟨ws, eu, r⟩ := racc
      subst eu
      refine h9.pure hs2.seen (.ref D) ?_ ⟨D, rfl, e1.free hD, hs2.take dh ⟨ws, hD2, r⟩⟩
      simp only [Rep]
      exact ⟨D, ws, rfl, hD2, dn, dh, RepK.seen _ _ r⟩
  refine ⟨fun i m H => m = xs.length - i ∧ i ≤ xs.length ∧ Pv i H, ⟨_, rfl, Nat.zero_le _, start⟩, ?_⟩
  rintro i m H2 ⟨rfl, hi, p⟩
  have q0 : ∃ ρ2, Ext ρ1 H1 ρ2 H2 := by obtain ⟨ρ2, _, _, _, _, _, _, e, _⟩ := p; exact ⟨ρ2, e⟩
  by_cases hlt : i < xs.length
  · exact .inr ⟨wk.goes i H2 hlt q0, Pv (i + 1), fun H' p' => ⟨xs.length - (i + 1), by omega, rfl, hlt, p'⟩, fun x H' y => step i x H2 H' hlt p (wk.yields i H2 x H' hlt q0 y)⟩
  · have e : i = xs.length := by omega
    subst e
    exact .inl ⟨wk.stops H2 q0, fin H2 p⟩
theorem s_dcomp {c : Ctx} {pos : Pos} {kx vx tg iter : Expr} {scope : Scope} {own : List (Str × Nat)} {g : T} {src : Src} {t : Bool} {ek ev : E} (hu : X.A.units + 65 < cLine) (hc : X.calm = true) (hN : X.N.Nodup) (hi : PI X tg iter (tI X.K c src)) (ok : BlkOk X.N X.env.scope scope own)
    (hg : ∀ (z : Shared) (G : Hp) (C : Addr) (cl : List (Str × Addr)) (fp : List Addr), PG (X.blk z G scope (compEnvC scope cl C X.env) fp) tg (tG X.K g))
    (hk : ∀ (z : Shared) (G : Hp) (C : Addr) (cl : List (Str × Addr)) (fp : List Addr), PE (X.blk z G scope (compEnvC scope cl C X.env) fp) kx (tE X.K c ek))
    (he : ∀ (z : Shared) (G : Hp) (C : Addr) (cl : List (Str × Addr)) (fp : List Addr), PE (X.blk z G scope (compEnvC scope cl C X.env) fp) vx (tE X.K c ev)) (hf : noSetE iter = true) (hown : ∀ i ∈ tgN g, i ∈ own.map (·.2)) :
    PE X (.DictComp kx vx [⟨tg, iter, [], 0⟩] scope pos) (tE X.K c (.dcomp (own.map (·.2)) g src t ek ev)) :=
  PE.imp (pe_dq (o0 := emptyOf t) (by cases t; exact .inl rfl; exact .inr rfl) (by omega) hc hN hi ok hg hk he (no_fold hf X.env)) fun σ H Q h => dc_read hown h
theorem s_setDcomp {c : Ctx} {i : Nat} {y : Str} {py : Pos} {pos spos : Pos} {kx vx tg iter : Expr} {scope : Scope} {own : List (Str × Nat)} {g : T} {src : Src} {t : Bool} {ek ev e' : E} (rd : ∀ σ H Q, tE X.K c e' σ H Q → tE X.K c (.dcomp (own.map (·.2)) g src t ek ev) σ H Q)
    (hu : X.A.units + 65 < cLine) (hc : X.calm = true) (hN : X.N.Nodup) (hy : X.N[i]? = some y) (hyl : X.env.scope.names.lookup y = some .local) (hsw : swapsWith (.DictComp kx vx [⟨tg, iter, [], 0⟩] scope pos) (some (.Name y py)) spos.line X.env = pure true)
    (hi : PI X tg iter (tI X.K c src)) (ok : BlkOk X.N X.env.scope scope own)
    (hg : ∀ (z : Shared) (G : Hp) (C : Addr) (cl : List (Str × Addr)) (fp : List Addr), PG (X.blk z G scope (compEnvC scope cl C X.env) fp) tg (tG X.K g))
    (hk : ∀ (z : Shared) (G : Hp) (C : Addr) (cl : List (Str × Addr)) (fp : List Addr), PE (X.blk z G scope (compEnvC scope cl C X.env) fp) kx (tE X.K c ek))
    (he : ∀ (z : Shared) (G : Hp) (C : Addr) (cl : List (Str × Addr)) (fp : List Addr), PE (X.blk z G scope (compEnvC scope cl C X.env) fp) vx (tE X.K c ev)) (hf : noSetE iter = true) (hown : ∀ i ∈ tgN g, i ∈ own.map (·.2)) :
    PS X (.Assign [.Name y py] (.DictComp kx vx [⟨tg, iter, [], 0⟩] scope pos) spos) (tS X.K c (.asg (.name i) e')) :=
  PS.imp (ps_setDq (o0 := emptyOf t) (by cases t; exact .inl rfl; exact .inr rfl) (by omega) hc hN hy hyl hsw hi ok hg hk he (no_fold hf X.env)) fun D σ H h => dc_read hown (rd _ _ _ (set_read h))
end
end QE

set_option Elab.async false
set_option linter.all false
set_option maxRecDepth 10000
set_option maxHeartbeats 1000000
/-! The text beside the evaluator's text: expressions. -/
namespace QE
open PySem PySem.Spec PyProof.Rows L2
/-- the names of a text: its defs, its constants, the built-ins it uses -/
structure Cf where
  fns : List Str
  cons : List Str
  bis : List Str
def kd (sc : Scope) (x : Str) : Option NameKind := sc.names.lookup x
def isL (sc : Scope) (x : Str) : Bool := decide (kd sc x = some .local)
def isLoc (sc : Scope) (x : Str) : Bool := decide (kd sc x = some .local) || decide (kd sc x = some .cell)
def isVis (sc : Scope) (x : Str) : Bool := decide (kd sc x = some .local) || (decide (kd sc x = some .cell) || decide (kd sc x = some .free))
def isGl (sc : Scope) (x : Str) : Bool := decide (kd sc x = some .globalImplicit)
/-- not one of the names that Python keeps for itself -/
def plainN (x : Str) : Bool := !(x == ("__debug__" : Str)) && (!(x == ("__classdict__" : Str)) && !decide (x = ("__name__" : Str)))
/-- a built-in's name -/
def isBi (cf : Cf) (sc : Scope) (x : Str) : Bool := isGl sc x && (decide (x ∈ cf.bis) && plainN x)

/-! ### shapes -/
def opIs : BOp → Operator → Bool
  | .add, .Add => true
  | .sub, .Sub => true
  | .mul, .Mult => true
  | .fdiv, .FloorDiv => true
  | .mod, .Mod => true
  | .pow, .Pow => true
  | _, _ => false
theorem opIs_ok {a : BOp} {o : Operator} (h : opIs a o = true) : o = opOf a := by cases a <;> cases o <;> first | rfl | (cases h; done)
def coIs : COp → CmpOp → Bool
  | .eq, .Eq => true
  | .ne, .NotEq => true
  | .lt, .Lt => true
  | .le, .LtE => true
  | .gt, .Gt => true
  | .ge, .GtE => true
  | .in_, .In => true
  | .nin, .NotIn => true
  | .is_, .Is => true
  | .isn, .IsNot => true
  | _, _ => false
theorem coIs_ok {a : COp} {o : CmpOp} (h : coIs a o = true) : o = cmpOf a := by cases a <;> cases o <;> first | rfl | (cases h; done)
/-- the names of a comprehension's block, with their places -/
def ownOf (N : List Str) (scope : Scope) : List (Str × Nat) := scope.names.filterMap fun y => if decide (y.2 = .local) || decide (y.2 = .cell) then (match N.findIdx? (fun z => decide (z = y.1)) with
  | some i => some (y.1, i)
  | none => none) else none
def blkB (N : List Str) (sc scope : Scope) : Bool :=
  decide (scope.kind = .function) && (scope.names.all fun y => decide (scope.names.lookup y.1 = some y.2)) && ((ownOf N scope).all fun p => decide (N[p.2]? = some p.1)) &&
  (scope.names.all fun y => !decide (y.2 = .free) || (decide (kd sc y.1 = some .cell) || decide (kd sc y.1 = some .free))) &&
  (scope.names.all fun y => !(decide (y.2 = .local) || decide (y.2 = .cell)) || (decide (y.1 ∈ (ownOf N scope).map (·.1)) || decide (y.1 ∉ N)))
theorem blk_ok {N : List Str} {sc scope : Scope} (h : blkB N sc scope = true) : BlkOk N sc scope (ownOf N scope) := by
  simp only [blkB, Bool.and_eq_true, List.all_eq_true, decide_eq_true_eq] at h
  obtain ⟨⟨⟨⟨h1, h2⟩, h3⟩, h4⟩, h5⟩ := h
  refine ⟨h1, h2, h3, fun y hy e => ?_, fun y hy e => ?_⟩
  · have := h4 y hy
    simp only [e, decide_true, Bool.not_true, Bool.false_or, Bool.or_eq_true, decide_eq_true_eq] at this
    exact this
  · have := h5 y hy
    rcases e with e | e <;> simpa [e] using this
/-! ### targets, sources, expressions -/
mutual
def mG (N : List Str) (sc : Scope) (fb : Str → Bool) : T → Expr → Bool
  | .name i, .Name x _ => decide (N[i]? = some x) && (isLoc sc x && (fb x || isL sc x))
  | .tup ts, .Tuple es _ _ => es.all plainG && (decide (es.length = ts.length) && mGs N sc fb ts es)
  | _, _ => false
def mGs (N : List Str) (sc : Scope) (fb : Str → Bool) : List T → List Expr → Bool
  | [], [] => true
  | t :: ts, e :: es => mG N sc fb t e && mGs N sc fb ts es
  | _, _ => false
end
def tupE : Expr → Bool
  | .Tuple _ _ _ => true
  | _ => false
mutual
/-- may stand as a test -/
def tst : E → Bool
  | .var _ => true
  | .lit _ => true
  | .con _ => true
  | .cmp _ _ _ => true
  | .chain _ _ _ _ _ => true
  | .and es => tstL es
  | .or es => tstL es
  | .not e => tst e
  | .idx _ _ => true
  | .slice _ _ _ => true
  | .call _ _ => true
  | .bi _ _ => true
  | .isi _ _ => true
  | .meth _ _ _ => true
  | .append _ _ => true
  | _ => false
def tstL : List E → Bool
  | [] => true
  | e :: es => tst e && tstL es
end
mutual
def mE (cf : Cf) (N : List Str) : E → Scope → Expr → Bool
  | .var i, sc, .Name x _ => decide (N[i]? = some x) && (isVis sc x && plainN x)
  | .lit v, _, .Constant k _ _ => constOk v k
  | .con i, sc, .Name x _ => decide (cf.cons[i]? = some x) && (isGl sc x && plainN x)
  | .bin op a b, sc, .BinOp xa o xb _ => opIs op o && (mE cf N a sc xa && mE cf N b sc xb)
  | .neg a, sc, .UnaryOp .USub xa _ => mE cf N a sc xa
  | .cmp op a b, sc, .Compare xa [o] [xb] _ => coIs op o && (noSetE xb && (mE cf N a sc xa && mE cf N b sc xb))
  | .chain o1 o2 a b d, sc, .Compare xa [p1, p2] [xb, xd] _ => (coIs o1 p1 && coIs o2 p2) && (noSetE xd && (mE cf N a sc xa && (mE cf N b sc xb && mE cf N d sc xd)))
  | .and es, sc, .BoolOp .And xs _ => !xs.isEmpty && mEs cf N es sc xs
  | .or es, sc, .BoolOp .Or xs _ => !xs.isEmpty && mEs cf N es sc xs
  | .not a, sc, .UnaryOp .Not xa _ => mE cf N a sc xa
  | .ite t a b, sc, .IfExp xt xa xb _ => tst t && (mE cf N t sc xt && (mE cf N a sc xa && mE cf N b sc xb))
  | .tup es, sc, .Tuple xs _ _ => xs.all plainE && mEs cf N es sc xs
  | .list es, sc, .List xs _ => xs.all plainE && mEs cf N es sc xs
  | .dnew _, _, .Dict [] [] _ => true
  | .idx a i, sc, .Subscript xa xi _ => noSlice xi && (mE cf N a sc xa && mE cf N i sc xi)
  | .slice a lo hi, sc, .Subscript xa (.Slice xl xh none _) _ => mE cf N a sc xa && (mO cf N lo sc xl && mO cf N hi sc xh)
  | .call f es, sc, .Call (.Name x _) xs [] _ => decide (cf.fns[f]? = some x) && (isGl sc x && (plainN x && (xs.all plainE && mEs cf N es sc xs)))
  | .bi b es, sc, .Call (.Name x _) xs [] _ => decide (x = PySem.Str.ofString (biName b)) && (isBi cf sc x && (!xs.isEmpty && (xs.all plainE && mEs cf N es sc xs)))
  | .isi t a, sc, .Call (.Name x _) [xa, .Name y _] [] _ => decide (x = PySem.Str.ofString "isinstance") && (decide (y = PySem.Str.ofString (tyStr t)) && (isBi cf sc x && (isBi cf sc y && (plainE xa && mE cf N a sc xa))))
  | .meth m o a, sc, .Call (.Attribute xo nm ap) [xa] [] cp => decide (nm = PySem.Str.ofString (meName m)) && (plainE xa && (plainO xo && ((ap.endLine == cp.line) && (mE cf N o sc xo && mE cf N a sc xa))))
  | .append o a, sc, .Call (.Attribute xo nm ap) [xa] [] cp => decide (nm = PySem.Str.ofString "append") && (plainE xa && (plainO xo && ((ap.endLine == cp.line) && (mE cf N o sc xo && mE cf N a sc xa))))
  | .comp own tg src ifs elt, sc, .ListComp xe [⟨xt, xi, xifs, isa⟩] scope _ => decide (isa = 0) && (decide (own = (ownOf N scope).map (·.2)) && (blkB N sc scope && (noSetE xi && ((tgN tg).all (fun i => decide (i ∈ own)) &&
      (mSrc cf N src sc xt xi && (mG N (relS scope sc) (fun x => scope.names.lookup x == some .cell) tg xt && (mIfs cf N ifs (relS scope sc) xifs && mE cf N elt (relS scope sc) xe)))))))
  | .dcomp own tg src _ k v, sc, .DictComp xk xv [⟨xt, xi, [], isa⟩] scope _ => decide (isa = 0) && (decide (own = (ownOf N scope).map (·.2)) && (blkB N sc scope && (noSetE xi && ((tgN tg).all (fun i => decide (i ∈ own)) &&
      (mSrc cf N src sc xt xi && (mG N (relS scope sc) (fun x => scope.names.lookup x == some .cell) tg xt && (mE cf N k (relS scope sc) xk && mE cf N v (relS scope sc) xv)))))))
  | .cell e, sc, x => mE cf N e sc x
  | _, _, _ => false
def mEs (cf : Cf) (N : List Str) : List E → Scope → List Expr → Bool
  | [], _, [] => true
  | e :: es, sc, x :: xs => mE cf N e sc x && mEs cf N es sc xs
  | _, _, _ => false
def mO (cf : Cf) (N : List Str) : Option E → Scope → Option Expr → Bool
  | none, _, none => true
  | some e, sc, some x => mE cf N e sc x
  | _, _, _ => false
def mIfs (cf : Cf) (N : List Str) : List E → Scope → List Expr → Bool
  | [], _, [] => true
  | [e], sc, [x] => tst e && mE cf N e sc x
  | _, _, _ => false
def mSrc (cf : Cf) (N : List Str) : Src → Scope → Expr → Expr → Bool
  | .it e, sc, _, x => mE cf N e sc x
  | .rng1 a, sc, _, .Call (.Name x _) [xa] [] _ => decide (x = PySem.Str.ofString "range") && (isBi cf sc x && (plainE xa && mE cf N a sc xa))
  | .rng2 a b, sc, _, .Call (.Name x _) [xa, xb] [] _ => decide (x = PySem.Str.ofString "range") && (isBi cf sc x && (plainE xa && (plainE xb && (mE cf N a sc xa && mE cf N b sc xb))))
  | .enum a, sc, xt, .Call (.Name x _) [xa] [] _ => decide (x = PySem.Str.ofString "enumerate") && (tupE xt && (isBi cf sc x && (plainE xa && mE cf N a sc xa)))
  | .zip a b, sc, xt, .Call (.Name x _) [xa, xb] [] _ => decide (x = PySem.Str.ofString "zip") && (tupE xt && (isBi cf sc x && (plainE xa && (plainE xb && (mE cf N a sc xa && mE cf N b sc xb)))))
  | _, _, _, _ => false
end
/-- what holds wherever the text's defs run -/
structure Okx (X : Cx) (cf : Cf) (c : Ctx) : Prop where
  calm : X.calm = true
  nd : X.N.Nodup
  un : X.A.units + 65 < cLine
  fns : ∀ (f : Nat) (x : Str), cf.fns[f]? = some x → ∃ k fa fd ps, FnOk X.prog X.w X.K X.mg X.base CX0 k fa fd ps (spF X.K c.call f) ∧ Room k X.A ∧ X.mg x = some (.ref fa) ∧ PySem.W.keepIn X.K (.ref fa) = true ∧ Binds X.K fd ps []
  cons : ∀ (i : Nat) (x : Str), cf.cons[i]? = some x → ∃ u, X.mg x = some u ∧ ∀ v, c.con i = some v → flatIs v u
  bis : ∀ x, x ∈ cf.bis → X.mg x = none
theorem Okx.blk {X : Cx} {cf : Cf} {c : Ctx} (h : Okx X cf c) (s : Shared) (H : Hp) (scope : Scope) (ce : PySem.Env) (fp : List Addr) : Okx (X.blk s H scope ce fp) cf c := ⟨h.calm, h.nd, h.un, h.fns, h.cons, h.bis⟩
end QE

set_option Elab.async false
set_option linter.all false
set_option maxRecDepth 10000
set_option maxHeartbeats 1000000
/-! What the check says, shape by shape. -/
namespace QE
open PySem PySem.Spec PyProof.Rows L2
theorem inv_var {cf : Cf} {N : List Str} {i : Nat} {sc : Scope} {x : Expr} (h : mE cf N (.var i) sc x = true) : ∃ y p, x = .Name y p ∧ N[i]? = some y ∧ isVis sc y = true ∧ plainN y = true := by
  unfold mE at h
  split at h <;> first | (cases h; done) | (rename_i heq; cases heq; done) | skip
  rename_i heq
  cases heq
  try simp only [Bool.and_eq_true, decide_eq_true_eq, Bool.not_eq_true'] at h
  exact ⟨_, _, rfl, h⟩
theorem inv_lit {cf : Cf} {N : List Str} {v : Val} {sc : Scope} {x : Expr} (h : mE cf N (.lit v) sc x = true) : ∃ k j p, x = .Constant k j p ∧ constOk v k = true := by
  unfold mE at h
  split at h <;> first | (cases h; done) | (rename_i heq; cases heq; done) | skip
  rename_i heq
  cases heq
  try simp only [Bool.and_eq_true, decide_eq_true_eq, Bool.not_eq_true'] at h
  exact ⟨_, _, _, rfl, h⟩
theorem inv_con {cf : Cf} {N : List Str} {i : Nat} {sc : Scope} {x : Expr} (h : mE cf N (.con i) sc x = true) : ∃ y p, x = .Name y p ∧ cf.cons[i]? = some y ∧ isGl sc y = true ∧ plainN y = true := by
  unfold mE at h
  split at h <;> first | (cases h; done) | (rename_i heq; cases heq; done) | skip
  rename_i heq
  cases heq
  try simp only [Bool.and_eq_true, decide_eq_true_eq, Bool.not_eq_true'] at h
  exact ⟨_, _, rfl, h⟩
theorem inv_bin {cf : Cf} {N : List Str} {op : BOp} {a b : E} {sc : Scope} {x : Expr} (h : mE cf N (.bin op a b) sc x = true) : ∃ xa o xb p, x = .BinOp xa o xb p ∧ opIs op o = true ∧ mE cf N a sc xa = true ∧ mE cf N b sc xb = true := by
  unfold mE at h
  split at h <;> first | (cases h; done) | (rename_i heq; cases heq; done) | skip
  rename_i heq
  cases heq
  try simp only [Bool.and_eq_true, decide_eq_true_eq, Bool.not_eq_true'] at h
  exact ⟨_, _, _, _, rfl, h⟩
theorem inv_neg {cf : Cf} {N : List Str} {a : E} {sc : Scope} {x : Expr} (h : mE cf N (.neg a) sc x = true) : ∃ xa p, x = .UnaryOp .USub xa p ∧ mE cf N a sc xa = true := by
  unfold mE at h
  split at h <;> first | (cases h; done) | (rename_i heq; cases heq; done) | skip
  rename_i heq
  cases heq
  try simp only [Bool.and_eq_true, decide_eq_true_eq, Bool.not_eq_true'] at h
  exact ⟨_, _, rfl, h⟩
theorem inv_cmp {cf : Cf} {N : List Str} {op : COp} {a b : E} {sc : Scope} {x : Expr} (h : mE cf N (.cmp op a b) sc x = true) : ∃ xa o xb p, x = .Compare xa [o] [xb] p ∧ coIs op o = true ∧ noSetE xb = true ∧ mE cf N a sc xa = true ∧ mE cf N b sc xb = true := by
  unfold mE at h
  split at h <;> first | (cases h; done) | (rename_i heq; cases heq; done) | skip
  rename_i heq
  cases heq
  try simp only [Bool.and_eq_true, decide_eq_true_eq, Bool.not_eq_true'] at h
  exact ⟨_, _, _, _, rfl, h⟩
theorem inv_chain {cf : Cf} {N : List Str} {o1 o2 : COp} {a b d : E} {sc : Scope} {x : Expr} (h : mE cf N (.chain o1 o2 a b d) sc x = true) : ∃ xa p1 p2 xb xd p, x = .Compare xa [p1, p2] [xb, xd] p ∧ (coIs o1 p1 = true ∧ coIs o2 p2 = true) ∧ noSetE xd = true ∧ mE cf N a sc xa = true ∧ mE cf N b sc xb = true ∧ mE cf N d sc xd = true := by
  unfold mE at h
  split at h <;> first | (cases h; done) | (rename_i heq; cases heq; done) | skip
  rename_i heq
  cases heq
  try simp only [Bool.and_eq_true, decide_eq_true_eq, Bool.not_eq_true'] at h
  exact ⟨_, _, _, _, _, _, rfl, h⟩
theorem inv_and {cf : Cf} {N : List Str} {es : List E} {sc : Scope} {x : Expr} (h : mE cf N (.and es) sc x = true) : ∃ xs p, x = .BoolOp .And xs p ∧ xs.isEmpty = false ∧ mEs cf N es sc xs = true := by
  unfold mE at h
  split at h <;> first | (cases h; done) | (rename_i heq; cases heq; done) | skip
  rename_i heq
  cases heq
  try simp only [Bool.and_eq_true, decide_eq_true_eq, Bool.not_eq_true'] at h
  exact ⟨_, _, rfl, h⟩
theorem inv_or {cf : Cf} {N : List Str} {es : List E} {sc : Scope} {x : Expr} (h : mE cf N (.or es) sc x = true) : ∃ xs p, x = .BoolOp .Or xs p ∧ xs.isEmpty = false ∧ mEs cf N es sc xs = true := by
  unfold mE at h
  split at h <;> first | (cases h; done) | (rename_i heq; cases heq; done) | skip
  rename_i heq
  cases heq
  try simp only [Bool.and_eq_true, decide_eq_true_eq, Bool.not_eq_true'] at h
  exact ⟨_, _, rfl, h⟩
theorem inv_not {cf : Cf} {N : List Str} {a : E} {sc : Scope} {x : Expr} (h : mE cf N (.not a) sc x = true) : ∃ xa p, x = .UnaryOp .Not xa p ∧ mE cf N a sc xa = true := by
  unfold mE at h
  split at h <;> first | (cases h; done) | (rename_i heq; cases heq; done) | skip
  rename_i heq
  cases heq
  try simp only [Bool.and_eq_true, decide_eq_true_eq, Bool.not_eq_true'] at h
  exact ⟨_, _, rfl, h⟩
theorem inv_ite {cf : Cf} {N : List Str} {t a b : E} {sc : Scope} {x : Expr} (h : mE cf N (.ite t a b) sc x = true) : ∃ xt xa xb p, x = .IfExp xt xa xb p ∧ tst t = true ∧ mE cf N t sc xt = true ∧ mE cf N a sc xa = true ∧ mE cf N b sc xb = true := by
  unfold mE at h
  split at h <;> first | (cases h; done) | (rename_i heq; cases heq; done) | skip
  rename_i heq
  cases heq
  try simp only [Bool.and_eq_true, decide_eq_true_eq, Bool.not_eq_true'] at h
  exact ⟨_, _, _, _, rfl, h⟩
theorem inv_tup {cf : Cf} {N : List Str} {es : List E} {sc : Scope} {x : Expr} (h : mE cf N (.tup es) sc x = true) : ∃ xs k p, x = .Tuple xs k p ∧ xs.all plainE = true ∧ mEs cf N es sc xs = true := by
  unfold mE at h
  split at h <;> first | (cases h; done) | (rename_i heq; cases heq; done) | skip
  rename_i heq
  cases heq
  try simp only [Bool.and_eq_true, decide_eq_true_eq, Bool.not_eq_true'] at h
  exact ⟨_, _, _, rfl, h⟩
theorem inv_list {cf : Cf} {N : List Str} {es : List E} {sc : Scope} {x : Expr} (h : mE cf N (.list es) sc x = true) : ∃ xs p, x = .List xs p ∧ xs.all plainE = true ∧ mEs cf N es sc xs = true := by
  unfold mE at h
  split at h <;> first | (cases h; done) | (rename_i heq; cases heq; done) | skip
  rename_i heq
  cases heq
  try simp only [Bool.and_eq_true, decide_eq_true_eq, Bool.not_eq_true'] at h
  exact ⟨_, _, rfl, h⟩
theorem inv_dnew {cf : Cf} {N : List Str} {t : Bool} {sc : Scope} {x : Expr} (h : mE cf N (.dnew t) sc x = true) : ∃ p, x = .Dict [] [] p := by
  unfold mE at h
  split at h <;> first | (cases h; done) | (rename_i heq; cases heq; done) | skip
  rename_i heq
  cases heq
  try simp only [Bool.and_eq_true, decide_eq_true_eq, Bool.not_eq_true'] at h
  exact ⟨_, rfl⟩
theorem inv_idx {cf : Cf} {N : List Str} {a i : E} {sc : Scope} {x : Expr} (h : mE cf N (.idx a i) sc x = true) : ∃ xa xi p, x = .Subscript xa xi p ∧ noSlice xi = true ∧ mE cf N a sc xa = true ∧ mE cf N i sc xi = true := by
  unfold mE at h
  split at h <;> first | (cases h; done) | (rename_i heq; cases heq; done) | skip
  rename_i heq
  cases heq
  try simp only [Bool.and_eq_true, decide_eq_true_eq, Bool.not_eq_true'] at h
  exact ⟨_, _, _, rfl, h⟩
theorem inv_slice {cf : Cf} {N : List Str} {a : E} {lo hi : Option E} {sc : Scope} {x : Expr} (h : mE cf N (.slice a lo hi) sc x = true) : ∃ xa xl xh p2 p, x = .Subscript xa (.Slice xl xh none p2) p ∧ mE cf N a sc xa = true ∧ mO cf N lo sc xl = true ∧ mO cf N hi sc xh = true := by
  unfold mE at h
  split at h <;> first | (cases h; done) | (rename_i heq; cases heq; done) | skip
  rename_i heq
  cases heq
  try simp only [Bool.and_eq_true, decide_eq_true_eq, Bool.not_eq_true'] at h
  exact ⟨_, _, _, _, _, rfl, h⟩
theorem inv_call {cf : Cf} {N : List Str} {f : Nat} {es : List E} {sc : Scope} {x : Expr} (h : mE cf N (.call f es) sc x = true) : ∃ y q xs p, x = .Call (.Name y q) xs [] p ∧ cf.fns[f]? = some y ∧ isGl sc y = true ∧ plainN y = true ∧ xs.all plainE = true ∧ mEs cf N es sc xs = true := by
  unfold mE at h
  split at h <;> first | (cases h; done) | (rename_i heq; cases heq; done) | skip
  rename_i heq
  cases heq
  try simp only [Bool.and_eq_true, decide_eq_true_eq, Bool.not_eq_true'] at h
  exact ⟨_, _, _, _, rfl, h⟩
theorem inv_bi {cf : Cf} {N : List Str} {b : Bi} {es : List E} {sc : Scope} {x : Expr} (h : mE cf N (.bi b es) sc x = true) : ∃ y q xs p, x = .Call (.Name y q) xs [] p ∧ y = PySem.Str.ofString (biName b) ∧ isBi cf sc y = true ∧ xs.isEmpty = false ∧ xs.all plainE = true ∧ mEs cf N es sc xs = true := by
  unfold mE at h
  split at h <;> first | (cases h; done) | (rename_i heq; cases heq; done) | skip
  rename_i heq
  cases heq
  try simp only [Bool.and_eq_true, decide_eq_true_eq, Bool.not_eq_true'] at h
  exact ⟨_, _, _, _, rfl, h⟩
theorem inv_isi {cf : Cf} {N : List Str} {t : Ty} {a : E} {sc : Scope} {x : Expr} (h : mE cf N (.isi t a) sc x = true) : ∃ y q xa z q2 p, x = .Call (.Name y q) [xa, .Name z q2] [] p ∧ y = PySem.Str.ofString "isinstance" ∧ z = PySem.Str.ofString (tyStr t) ∧ isBi cf sc y = true ∧ isBi cf sc z = true ∧ plainE xa = true ∧ mE cf N a sc xa = true := by
  unfold mE at h
  split at h <;> first | (cases h; done) | (rename_i heq; cases heq; done) | skip
  rename_i heq
  cases heq
  try simp only [Bool.and_eq_true, decide_eq_true_eq, Bool.not_eq_true'] at h
  exact ⟨_, _, _, _, _, _, rfl, h⟩
theorem inv_meth {cf : Cf} {N : List Str} {m : Me} {o a : E} {sc : Scope} {x : Expr} (h : mE cf N (.meth m o a) sc x = true) : ∃ xo nm ap xa cp, x = .Call (.Attribute xo nm ap) [xa] [] cp ∧ nm = PySem.Str.ofString (meName m) ∧ plainE xa = true ∧ plainO xo = true ∧ (ap.endLine == cp.line) = true ∧ mE cf N o sc xo = true ∧ mE cf N a sc xa = true := by
  unfold mE at h
  split at h <;> first | (cases h; done) | (rename_i heq; cases heq; done) | skip
  rename_i heq
  cases heq
  try simp only [Bool.and_eq_true, decide_eq_true_eq, Bool.not_eq_true'] at h
  exact ⟨_, _, _, _, _, rfl, h⟩
theorem inv_append {cf : Cf} {N : List Str} {o a : E} {sc : Scope} {x : Expr} (h : mE cf N (.append o a) sc x = true) : ∃ xo nm ap xa cp, x = .Call (.Attribute xo nm ap) [xa] [] cp ∧ nm = PySem.Str.ofString "append" ∧ plainE xa = true ∧ plainO xo = true ∧ (ap.endLine == cp.line) = true ∧ mE cf N o sc xo = true ∧ mE cf N a sc xa = true := by
  unfold mE at h
  split at h <;> first | (cases h; done) | (rename_i heq; cases heq; done) | skip
  rename_i heq
  cases heq
  try simp only [Bool.and_eq_true, decide_eq_true_eq, Bool.not_eq_true'] at h
  exact ⟨_, _, _, _, _, rfl, h⟩
theorem inv_comp {cf : Cf} {N : List Str} {own : List Nat} {tg : T} {src : Src} {ifs : List E} {elt : E} {sc : Scope} {x : Expr} (h : mE cf N (.comp own tg src ifs elt) sc x = true) : ∃ xe xt xi xifs isa scope p, x = .ListComp xe [⟨xt, xi, xifs, isa⟩] scope p ∧ isa = 0 ∧ own = (ownOf N scope).map (·.2) ∧ blkB N sc scope = true ∧ noSetE xi = true ∧ (tgN tg).all (fun i => decide (i ∈ own)) = true ∧ mSrc cf N src sc xt xi = true ∧ mG N (relS scope sc) (fun x => scope.names.lookup x == some .cell) tg xt = true ∧ mIfs cf N ifs (relS scope sc) xifs = true ∧ mE cf N elt (relS scope sc) xe = true := by
  unfold mE at h
  split at h <;> first | (cases h; done) | (rename_i heq; cases heq; done) | skip
  rename_i heq
  cases heq
  try simp only [Bool.and_eq_true, decide_eq_true_eq, Bool.not_eq_true'] at h
  exact ⟨_, _, _, _, _, _, _, rfl, h⟩
theorem inv_dcomp {cf : Cf} {N : List Str} {own : List Nat} {tg : T} {src : Src} {t : Bool} {k v : E} {sc : Scope} {x : Expr} (h : mE cf N (.dcomp own tg src t k v) sc x = true) : ∃ xk xv xt xi isa scope p, x = .DictComp xk xv [⟨xt, xi, [], isa⟩] scope p ∧ isa = 0 ∧ own = (ownOf N scope).map (·.2) ∧ blkB N sc scope = true ∧ noSetE xi = true ∧ (tgN tg).all (fun i => decide (i ∈ own)) = true ∧ mSrc cf N src sc xt xi = true ∧ mG N (relS scope sc) (fun x => scope.names.lookup x == some .cell) tg xt = true ∧ mE cf N k (relS scope sc) xk = true ∧ mE cf N v (relS scope sc) xv = true := by
  unfold mE at h
  split at h <;> first | (cases h; done) | (rename_i heq; cases heq; done) | skip
  rename_i heq
  cases heq
  try simp only [Bool.and_eq_true, decide_eq_true_eq, Bool.not_eq_true'] at h
  exact ⟨_, _, _, _, _, _, _, rfl, h⟩
end QE

set_option Elab.async false
set_option linter.all false
set_option maxRecDepth 10000
set_option maxHeartbeats 1000000
/-! The check is sound: expressions. -/
namespace QE
open PySem PySem.Spec PyProof.Rows L2
theorem vis_ok {X : Cx} {x : Str} (h : isVis X.env.scope x = true) : Vis X.env.scope x := by
  simp only [isVis, Bool.or_eq_true, decide_eq_true_eq] at h
  exact h
theorem loc_ok {X : Cx} {x : Str} (h : isLoc X.env.scope x = true) : L2.Loc X.env.scope x := by
  simp only [isLoc, Bool.or_eq_true, decide_eq_true_eq] at h
  exact h
theorem gl_ok {X : Cx} {x : Str} (h : isGl X.env.scope x = true) : Gl X x := by
  simp only [isGl, decide_eq_true_eq] at h
  exact h
theorem plain1 {x : Str} (h : plainN x = true) : (x == ("__debug__" : Str)) = false := by
  simp only [plainN, Bool.and_eq_true, Bool.not_eq_true', decide_eq_false_iff_not] at h
  exact h.1
theorem plain2 {x : Str} (h : plainN x = true) : (x == ("__classdict__" : Str)) = false := by
  simp only [plainN, Bool.and_eq_true, Bool.not_eq_true', decide_eq_false_iff_not] at h
  exact h.2.1
theorem plain3 {x : Str} (h : plainN x = true) : x ≠ ("__name__" : Str) := by
  simp only [plainN, Bool.and_eq_true, Bool.not_eq_true', decide_eq_false_iff_not] at h
  exact h.2.2
section
variable {X : Cx} {cf : Cf} {c : Ctx}
theorem bi_ok (ok : Okx X cf c) {x : Str} (h : isBi cf X.env.scope x = true) : Gl X x ∧ X.mg x = none ∧ plainN x = true := by
  simp only [isBi, Bool.and_eq_true, decide_eq_true_eq] at h
  exact ⟨gl_ok h.1, ok.bis x h.2.1, h.2.2⟩
mutual
theorem okG (ok : Okx X cf c) {fb : Str → Bool} (hf : ∀ x, fb x = true → X.fn x = true) : ∀ (t : T) (e : Expr), mG X.N X.env.scope fb t e = true → PG X e (tG X.K t)
  | .name i, e, h => by
    unfold mG at h
    split at h <;> first | (cases h; done) | (rename_i heq; cases heq; done) | skip
    rename_i heq
    cases heq
    simp only [Bool.and_eq_true, decide_eq_true_eq, Bool.or_eq_true] at h
    exact g_name ok.nd h.1 (loc_ok h.2.1) (h.2.2.elim (fun z => .inl (hf _ z)) fun z => .inr (by simp only [isL, decide_eq_true_eq] at z; exact z))
  | .tup ts, e, h => by
    unfold mG at h
    split at h <;> first | (cases h; done) | (rename_i heq; cases heq; done) | skip
    rename_i heq
    cases heq
    simp only [Bool.and_eq_true, decide_eq_true_eq] at h
    exact g_tup ok.calm (okGs ok hf ts _ h.2.2) h.1 h.2.1
theorem okGs (ok : Okx X cf c) {fb : Str → Bool} (hf : ∀ x, fb x = true → X.fn x = true) : ∀ (ts : List T) (es : List Expr), mGs X.N X.env.scope fb ts es = true → PGs X es (tGs X.K ts)
  | [], [], _ => gs_nil
  | [], _ :: _, h => by simp [mGs] at h
  | _ :: _, [], h => by simp [mGs] at h
  | t :: ts, e :: es, h => by
    simp only [mGs, Bool.and_eq_true] at h
    have hp : plainG e = true := by
      cases e <;> first | rfl | (exfalso; cases t <;> simp [mG] at h)
    exact gs_cons (okG ok hf t e h.1) (okGs ok hf ts es h.2) hp
end
end
theorem tup_shape {x : Expr} (h : tupE x = true) : ∃ es k p, x = .Tuple es k p := by
  cases x <;> simp only [tupE] at h <;> first | (cases h; done) | exact ⟨_, _, _, rfl⟩
mutual
theorem okE : ∀ (e : E) {X : Cx} {cf : Cf} {c : Ctx} {x : Expr}, Okx X cf c → mE cf X.N e X.env.scope x = true → PE X x (tE X.K c e) ∧ (tst e = true → PT X x (tT X.K c e))
  | .var i, X, cf, c, x, ok, h => by
    obtain ⟨y, p, rfl, h1, h2, h3⟩ := inv_var h
    have := s_var (c := c) (pos := p) h1 (vis_ok h2) (plain1 h3) (plain2 h3)
    exact ⟨this, fun _ => t_val this rfl⟩
  | .lit v, X, cf, c, x, ok, h => by
    obtain ⟨k, j, p, rfl, h1⟩ := inv_lit h
    have := s_lit (X := X) (c := c) (pos := p) (j := j) h1
    exact ⟨this, fun _ => t_val this rfl⟩
  | .con i, X, cf, c, x, ok, h => by
    obtain ⟨y, p, rfl, h1, h2, h3⟩ := inv_con h
    obtain ⟨u, hm, hu⟩ := ok.cons i y h1
    have := s_con (X := X) (c := c) (pos := p) (gl_ok h2) hm hu (plain1 h3)
    exact ⟨this, fun _ => t_val this rfl⟩
  | .bin op a b, X, cf, c, x, ok, h => by
    obtain ⟨xa, o, xb, p, rfl, h1, h2, h3⟩ := inv_bin h
    cases opIs_ok h1
    exact ⟨s_bin (okE a ok h2).1 (okE b ok h3).1, fun z => by cases z⟩
  | .neg a, X, cf, c, x, ok, h => by
    obtain ⟨xa, p, rfl, h1⟩ := inv_neg h
    exact ⟨s_neg (okE a ok h1).1, fun z => by cases z⟩
  | .cmp op a b, X, cf, c, x, ok, h => by
    obtain ⟨xa, o, xb, p, rfl, h1, h2, h3, h4⟩ := inv_cmp h
    cases coIs_ok h1
    exact ⟨s_cmp ok.un (okE a ok h3).1 (okE b ok h4).1 h2, fun _ => t_cmp ok.un (okE a ok h3).1 (okE b ok h4).1 h2⟩
  | .chain o1 o2 a b d, X, cf, c, x, ok, h => by
    obtain ⟨xa, p1, p2, xb, xd, p, rfl, ⟨h1, h1'⟩, h2, h3, h4, h5⟩ := inv_chain h
    cases coIs_ok h1
    cases coIs_ok h1'
    exact ⟨s_chain ok.un (okE a ok h3).1 (okE b ok h4).1 (okE d ok h5).1 h2, fun _ => t_chain ok.un (okE a ok h3).1 (okE b ok h4).1 (okE d ok h5).1 h2⟩
  | .and es, X, cf, c, x, ok, h => by
    obtain ⟨xs, p, rfl, h1, h2⟩ := inv_and h
    have := okAnd es ok p h1 h2
    exact ⟨this.1, fun z => (this.2 (by simpa only [tst] using z)).pt⟩
  | .or es, X, cf, c, x, ok, h => by
    obtain ⟨xs, p, rfl, h1, h2⟩ := inv_or h
    have := okOr es ok p h1 h2
    exact ⟨this.1, fun z => (this.2 (by simpa only [tst] using z)).pt⟩
  | .not a, X, cf, c, x, ok, h => by
    obtain ⟨xa, p, rfl, h1⟩ := inv_not h
    exact ⟨s_not (okE a ok h1).1, fun z => t_not ((okE a ok h1).2 (by simpa only [tst] using z))⟩
  | .ite t a b, X, cf, c, x, ok, h => by
    obtain ⟨xt, xa, xb, p, rfl, h0, h1, h2, h3⟩ := inv_ite h
    exact ⟨s_ite ((okE t ok h1).2 h0) (okE a ok h2).1 (okE b ok h3).1, fun z => by cases z⟩
  | .tup es, X, cf, c, x, ok, h => by
    obtain ⟨xs, k, p, rfl, h1, h2⟩ := inv_tup h
    exact ⟨s_tup (okEs es ok h1 h2), fun z => by cases z⟩
  | .list es, X, cf, c, x, ok, h => by
    obtain ⟨xs, p, rfl, h1, h2⟩ := inv_list h
    exact ⟨s_list (okEs es ok h1 h2), fun z => by cases z⟩
  | .dnew t, X, cf, c, x, ok, h => by
    obtain ⟨p, rfl⟩ := inv_dnew h
    exact ⟨s_dnew, fun z => by cases z⟩
  | .idx a i, X, cf, c, x, ok, h => by
    obtain ⟨xa, xi, p, rfl, h1, h2, h3⟩ := inv_idx h
    have := s_idx (pos := p) ok.un (okE a ok h2).1 (okE i ok h3).1 h1
    exact ⟨this, fun _ => t_val this rfl⟩
  | .slice a lo hi, X, cf, c, x, ok, h => by
    obtain ⟨xa, xl, xh, p2, p, rfl, h1, h2, h3⟩ := inv_slice h
    have := s_slice (pos := p) (p2 := p2) (okE a ok h1).1 (okO lo ok h2) (okO hi ok h3)
    exact ⟨this, fun _ => t_val this rfl⟩
  | .call f es, X, cf, c, x, ok, h => by
    obtain ⟨y, q, xs, p, rfl, h1, h2, h3, h4, h5⟩ := inv_call h
    obtain ⟨k, fa, fd, ps, F, hr, hm, hk, hb⟩ := ok.fns f y h1
    have : PE X (.Call (.Name y q) xs [] p) (tE X.K c (.call f es)) := by
      cases xs with
      | nil =>
        cases es with
        | nil => exact s_call0 F hr (gl_ok h2) hm hk hb (plain1 h3)
        | cons _ _ => simp [mEs] at h5
      | cons xa xs => exact s_call F hr (gl_ok h2) hm hk hb (okEs es ok h4 h5) (plain1 h3) h4
    exact ⟨this, fun _ => t_val this rfl⟩
  | .bi b es, X, cf, c, x, ok, h => by
    obtain ⟨y, q, xs, p, rfl, h1, h2, h3, h4, h5⟩ := inv_bi h
    obtain ⟨hg, hm, hn⟩ := bi_ok ok h2
    cases xs with
    | nil => cases h3
    | cons xa xs =>
      have := s_bi (p := q) (pos := p) ok.calm h1 hg hm (okEs es ok h4 h5) h4 (plain3 hn) (plain1 hn)
      exact ⟨this, fun _ => t_val this rfl⟩
  | .isi t a, X, cf, c, x, ok, h => by
    obtain ⟨y, q, xa, z, q2, p, rfl, h1, h2, h3, h4, h5, h6⟩ := inv_isi h
    obtain ⟨hg, hm, hn⟩ := bi_ok ok h3
    obtain ⟨hg2, hm2, hn2⟩ := bi_ok ok h4
    have := s_isi (p := q) (pos := p) (p2 := q2) h1 h2 hg hm hg2 hm2 (okE a ok h6).1 h5 (plain3 hn) (plain1 hn) (plain3 hn2) (plain1 hn2)
    exact ⟨this, fun _ => t_val this rfl⟩
  | .meth m o a, X, cf, c, x, ok, h => by
    obtain ⟨xo, nm, ap, xa, cp, rfl, h1, h2, h3, h4, h5, h6⟩ := inv_meth h
    have := s_meth ok.un h1 (okE o ok h5).1 (okE a ok h6).1 h2 h3 h4
    exact ⟨this, fun _ => t_val this rfl⟩
  | .append o a, X, cf, c, x, ok, h => by
    obtain ⟨xo, nm, ap, xa, cp, rfl, h1, h2, h3, h4, h5, h6⟩ := inv_append h
    have := s_append (c := c) h1 (okE o ok h5).1 (okE a ok h6).1 h2 h3 h4
    exact ⟨this, fun _ => t_val this rfl⟩
  | .comp own tg src ifs elt, X, cf, c, x, ok, h => by
    obtain ⟨xe, xt, xi, xifs, isa, scope, p, rfl, h1, h2, h3, h4, h5, h6, h7, h8, h9⟩ := inv_comp h
    subst h1 h2
    simp only [List.all_eq_true, decide_eq_true_eq] at h5
    refine ⟨s_comp ok.calm ok.nd (okSrc src ok h6) (blk_ok h3) (fun s H C cl fp => okG (ok.blk s H scope _ fp) (fun x z => z) tg xt h7) (fun s H C cl fp => okIfs ifs (ok.blk s H scope _ fp) h8) (fun s H C cl fp => (okE elt (ok.blk s H scope _ fp) h9).1) h4 h5, fun z => by cases z⟩
  | .dcomp own tg src t k v, X, cf, c, x, ok, h => by
    obtain ⟨xk, xv, xt, xi, isa, scope, p, rfl, h1, h2, h3, h4, h5, h6, h7, h8, h9⟩ := inv_dcomp h
    subst h1 h2
    simp only [List.all_eq_true, decide_eq_true_eq] at h5
    refine ⟨s_dcomp ok.un ok.calm ok.nd (okSrc src ok h6) (blk_ok h3) (fun s H C cl fp => okG (ok.blk s H scope _ fp) (fun x z => z) tg xt h7) (fun s H C cl fp => (okE k (ok.blk s H scope _ fp) h8).1) (fun s H C cl fp => (okE v (ok.blk s H scope _ fp) h9).1) h4 h5, fun z => by cases z⟩
  | .cell e, X, cf, c, x, ok, h => by
    simp only [mE] at h
    exact ⟨s_cell (okE e ok h).1, fun z => by cases z⟩
theorem okEs : ∀ (es : List E) {X : Cx} {cf : Cf} {c : Ctx} {xs : List Expr}, Okx X cf c → xs.all plainE = true → mEs cf X.N es X.env.scope xs = true → PA X xs (tEs X.K c es)
  | [], X, cf, c, xs, ok, hp, h => by
    cases xs with
    | nil => exact a_nil
    | cons _ _ => simp [mEs] at h
  | e :: es, X, cf, c, xs, ok, hp, h => by
    cases xs with
    | nil => simp [mEs] at h
    | cons x xs =>
      simp only [mEs, Bool.and_eq_true] at h
      simp only [List.all_cons, Bool.and_eq_true] at hp
      exact a_cons (okE e ok h.1).1 (okEs es ok hp.2 h.2) hp.1
theorem okAnd : ∀ (es : List E) {X : Cx} {cf : Cf} {c : Ctx} {xs : List Expr} (_ : Okx X cf c) (p : Pos), xs.isEmpty = false → mEs cf X.N es X.env.scope xs = true →
    PE X (.BoolOp .And xs p) (tE X.K c (.and es)) ∧ (tstL es = true → PW X (.BoolOp .And xs p) (tT X.K c (.and es)))
  | [], X, cf, c, xs, ok, p, hn, h => by
    cases xs with
    | nil => cases hn
    | cons _ _ => simp [mEs] at h
  | e :: es, X, cf, c, xs, ok, p, hn, h => by
    cases xs with
    | nil => cases hn
    | cons x xs =>
      simp only [mEs, Bool.and_eq_true] at h
      have h1 := okE (c := c) e ok h.1
      cases xs with
      | nil =>
        cases es with
        | nil => exact ⟨s_and1 h1.1, fun z => w_and1 (h1.2 (by simpa [tstL] using z))⟩
        | cons _ _ => simp [mEs] at h
      | cons y ys =>
        cases es with
        | nil => simp [mEs] at h
        | cons e2 es =>
          have h2 := okAnd (c := c) (e2 :: es) ok p (xs := y :: ys) rfl h.2
          refine ⟨s_and h1.1 h2.1, fun z => ?_⟩
          rw [tstL, Bool.and_eq_true] at z
          exact w_and (h1.2 z.1) (h2.2 z.2)
theorem okOr : ∀ (es : List E) {X : Cx} {cf : Cf} {c : Ctx} {xs : List Expr} (_ : Okx X cf c) (p : Pos), xs.isEmpty = false → mEs cf X.N es X.env.scope xs = true →
    PE X (.BoolOp .Or xs p) (tE X.K c (.or es)) ∧ (tstL es = true → PW X (.BoolOp .Or xs p) (tT X.K c (.or es)))
  | [], X, cf, c, xs, ok, p, hn, h => by
    cases xs with
    | nil => cases hn
    | cons _ _ => simp [mEs] at h
  | e :: es, X, cf, c, xs, ok, p, hn, h => by
    cases xs with
    | nil => cases hn
    | cons x xs =>
      simp only [mEs, Bool.and_eq_true] at h
      have h1 := okE (c := c) e ok h.1
      cases xs with
      | nil =>
        cases es with
        | nil => exact ⟨s_or1 h1.1, fun z => w_or1 (h1.2 (by simpa [tstL] using z))⟩
        | cons _ _ => simp [mEs] at h
      | cons y ys =>
        cases es with
        | nil => simp [mEs] at h
        | cons e2 es =>
          have h2 := okOr (c := c) (e2 :: es) ok p (xs := y :: ys) rfl h.2
          refine ⟨s_or h1.1 h2.1, fun z => ?_⟩
          rw [tstL, Bool.and_eq_true] at z
          exact w_or (h1.2 z.1) (h2.2 z.2)
theorem okO : ∀ (o : Option E) {X : Cx} {cf : Cf} {c : Ctx} {x : Option Expr}, Okx X cf c → mO cf X.N o X.env.scope x = true → PO X x (tO X.K c o)
  | none, X, cf, c, x, ok, h => by
    cases x with
    | none => exact o_none
    | some _ => simp [mO] at h
  | some e, X, cf, c, x, ok, h => by
    cases x with
    | none => simp [mO] at h
    | some x =>
      simp only [mO] at h
      exact o_some (okE e ok h).1
theorem okIfs : ∀ (es : List E) {X : Cx} {cf : Cf} {c : Ctx} {xs : List Expr}, Okx X cf c → mIfs cf X.N es X.env.scope xs = true → PTs X xs (tBs (evalAnd c) X.K es)
  | [], X, cf, c, xs, ok, h => by
    cases xs with
    | nil => exact ifs_nil
    | cons _ _ => simp [mIfs] at h
  | [e], X, cf, c, xs, ok, h => by
    match xs, h with
    | [x], h =>
      simp only [mIfs, Bool.and_eq_true] at h
      exact ifs_one ((okE e ok h.2).2 h.1)
    | [], h => simp [mIfs] at h
    | _ :: _ :: _, h => simp [mIfs] at h
  | _ :: _ :: _, X, cf, c, xs, ok, h => by simp [mIfs] at h
theorem okSrc : ∀ (s : Src) {X : Cx} {cf : Cf} {c : Ctx} {xt x : Expr}, Okx X cf c → mSrc cf X.N s X.env.scope xt x = true → PI X xt x (tI X.K c s)
  | .it e, X, cf, c, xt, x, ok, h => by
    simp only [mSrc] at h
    exact i_it (okE e ok h).1
  | .rng1 a, X, cf, c, xt, x, ok, h => by
    unfold mSrc at h
    split at h <;> first | (cases h; done) | (rename_i heq; cases heq; done) | skip
    rename_i heq
    cases heq
    simp only [Bool.and_eq_true, decide_eq_true_eq] at h
    obtain ⟨h1, h2, h3, h4⟩ := h
    obtain ⟨hg, hm, hn⟩ := bi_ok ok h2
    exact i_rng1 h1 hg hm (okE a ok h4).1 h3
  | .rng2 a b, X, cf, c, xt, x, ok, h => by
    unfold mSrc at h
    split at h <;> first | (cases h; done) | (rename_i heq; cases heq; done) | skip
    rename_i heq
    cases heq
    simp only [Bool.and_eq_true, decide_eq_true_eq] at h
    obtain ⟨h1, h2, h3, h4, h5, h6⟩ := h
    obtain ⟨hg, hm, hn⟩ := bi_ok ok h2
    exact i_rng2 h1 hg hm (okE a ok h5).1 h3 (okE b ok h6).1 h4
  | .enum a, X, cf, c, xt, x, ok, h => by
    unfold mSrc at h
    split at h <;> first | (cases h; done) | (rename_i heq; cases heq; done) | skip
    rename_i heq
    cases heq
    simp only [Bool.and_eq_true, decide_eq_true_eq] at h
    obtain ⟨h1, h0, h2, h3, h4⟩ := h
    obtain ⟨hg, hm, hn⟩ := bi_ok ok h2
    obtain ⟨u1, u2, u3, eu⟩ := tup_shape h0
    rw [eu]
    exact i_enum h1 hg hm (okE a ok h4).1 h3
  | .zip a b, X, cf, c, xt, x, ok, h => by
    unfold mSrc at h
    split at h <;> first | (cases h; done) | (rename_i heq; cases heq; done) | skip
    rename_i heq
    cases heq
    simp only [Bool.and_eq_true, decide_eq_true_eq] at h
    obtain ⟨h1, h0, h2, h3, h4, h5, h6⟩ := h
    obtain ⟨hg, hm, hn⟩ := bi_ok ok h2
    obtain ⟨u1, u2, u3, eu⟩ := tup_shape h0
    rw [eu]
    exact i_zip h1 hg hm (okE a ok h5).1 h3 (okE b ok h6).1 h4
end
end QE

set_option Elab.async false
set_option linter.all false
set_option maxRecDepth 10000
set_option maxHeartbeats 1000000
/-! The check is sound: statements, defs, texts. -/
namespace QE
open PySem PySem.Spec PyProof.Rows L2
def noOwn (scope : Scope) (y : Str) : Bool := !(scope.names.any fun (n, k) => n == y && (k == .local || k == .cell))
/-- a comprehension that goes into a name by the short road -/
def swapB (sc : Scope) : Expr → Expr → Bool
  | .Name y py, .ListComp _ _ scope p => isL sc y && ((py.line == p.line) && noOwn scope y)
  | .Name y py, .DictComp _ _ _ scope p => isL sc y && ((py.line == p.line) && noOwn scope y)
  | _, _ => false
def strip : E → E
  | .cell e => e
  | e => e
def isComp : E → Bool
  | .comp _ _ _ _ _ => true
  | .dcomp _ _ _ _ _ _ => true
  | _ => false
theorem strip_read {K : PySem.W.Frag} {c : Ctx} (e : E) : ∀ σ H Q, tE K c e σ H Q → tE K c (strip e) σ H Q := by
  intro σ H Q h
  unfold strip
  split
  · exact cell_read h
  · exact h
def mSw (cf : Cf) (N : List Str) (sc : Scope) : T → E → Expr → Expr → Bool
  | .name i, e, .Name y _, x => decide (N[i]? = some y) && (isComp (strip e) && mE cf N (strip e) sc x)
  | _, _, _, _ => false
mutual
def mS (cf : Cf) (N : List Str) : Stm → Scope → Stmt → Bool
  | .asg tg e, sc, .Assign [t] x _ => if swapB sc t x then mSw cf N sc tg e t x else ((noComp x || (noName t || celT sc t)) && ((noTup x || (noSeqT t || celTs sc t)) && (plainG t && (mE cf N e sc x && mG N sc (fun _ => true) tg t))))
  | .par [i, j] es, sc, .Assign [.Tuple [.Name x px, .Name y py] _ _] (.Tuple [a, b] _ _) _ => (decide (N[i]? = some x) && (decide (N[j]? = some y) && decide (i ≠ j))) && ((isL sc x && isL sc y) && (((py.line == px.line) && (!(x == y))) &&
      (([a, b].all plainE && (!([a, b].all (foldedForSure 8)) && !([a, b].all (constantsAlone 8)))) && mEs cf N es sc [a, b])))
  | .par [i, j, l] es, sc, .Assign [.Tuple [.Name x px, .Name y py, .Name z pz] _ _] (.Tuple [a, b, d] _ _) _ => (decide (N[i]? = some x) && (decide (N[j]? = some y) && (decide (N[l]? = some z) && (decide (i ≠ j) && (decide (i ≠ l) && decide (j ≠ l)))))) &&
      ((isL sc x && (isL sc y && isL sc z)) && (((py.line == px.line) && ((pz.line == px.line) && (!(x == y) && (!(x == z) && !(y == z))))) &&
      (([a, b, d].all plainE && (!([a, b, d].all (foldedForSure 8)) && !([a, b, d].all (constantsAlone 8)))) && mEs cf N es sc [a, b, d])))
  | .setIx o i e, sc, .Assign [.Subscript xo xi _] x _ => noSlice xi && (mE cf N e sc x && (mE cf N o sc xo && mE cf N i sc xi))
  | .aug i op e, sc, .AugAssign (.Name y _) o x _ => augOk op && (opIs op o && (decide (N[i]? = some y) && (isLoc sc y && mE cf N e sc x)))
  | .ext i e, sc, .AugAssign (.Name y _) .Add x _ => decide (N[i]? = some y) && (isLoc sc y && mE cf N e sc x)
  | .expr e, sc, .Expr x _ => noComp x && mE cf N e sc x
  | .ret e, sc, .Return (some x) _ => mE cf N e sc x
  | .retN, _, .Return none _ => true
  | .if_ t a b, sc, .If xt xa xb _ => tst t && (mE cf N t sc xt && (mSs cf N a sc xa && mSs cf N b sc xb))
  | .for_ tg src body, sc, .For xt xi xb [] _ => noSetE xi && (mSrc cf N src sc xt xi && (mG N sc (fun _ => true) tg xt && mSs cf N body sc xb))
  | .while_ t body, sc, .While xt xb [] _ => tst t && (mE cf N t sc xt && mSs cf N body sc xb)
  | .brk, _, .Break _ => true
  | .cont, _, .Continue _ => true
  | .pass, _, .Pass _ => true
  | .raise_ _ _, _, _ => true
  | _, _, _ => false
def mSs (cf : Cf) (N : List Str) : List Stm → Scope → List Stmt → Bool
  | [], _, [] => true
  | s :: ss, sc, x :: xs => mS cf N s sc x && mSs cf N ss sc xs
  | _, _, _ => false
end
section
variable {X : Cx} {cf : Cf} {c : Ctx}
theorem isL_ok {x : Str} (h : isL X.env.scope x = true) : X.env.scope.names.lookup x = some .local := by
  simp only [isL, decide_eq_true_eq] at h
  exact h
theorem noOwn_ok {scope : Scope} {y : Str} (h : noOwn scope y = true) : (scope.names.any fun (n, k) => n == y && (k == .local || k == .cell)) = false := by
  simpa only [noOwn, Bool.not_eq_true'] using h
theorem block_fn (hk : X.env.scope.kind = .function) : X.env.blockKind = .function := by unfold Env.blockKind; rw [hk]; rfl
theorem okSw (ok : Okx X cf c) (hk : X.env.scope.kind = .function) {tg : T} {e : E} {t x : Expr} {pos : Pos} (hs : swapB X.env.scope t x = true) (h : mSw cf X.N X.env.scope tg e t x = true) : PS X (.Assign [t] x pos) (tS X.K c (.asg tg e)) := by
  unfold mSw at h
  split at h
  · rename_i i y py
    simp only [Bool.and_eq_true, decide_eq_true_eq] at h
    obtain ⟨hi, hc, hm⟩ := h
    have rd := strip_read (K := X.K) (c := c) e
    revert hm hc rd
    generalize strip e = e'
    intro hc hm rd
    cases e' with
    | comp own g src ifs elt =>
      obtain ⟨xe, xt, xi, xifs, isa, scope, p, rfl, h1, h2, h3, h4, h5, h6, h7, h8, h9⟩ := inv_comp hm
      subst h1 h2
      simp only [List.all_eq_true, decide_eq_true_eq] at h5
      simp only [swapB, Bool.and_eq_true] at hs
      exact s_setComp rd ok.calm ok.nd hi (isL_ok hs.1) (sw_true hk (isL_ok hs.1) hs.2.1 (noOwn_ok hs.2.2)) (okSrc src ok h6) (blk_ok h3) (fun s H C cl fp => okG (ok.blk s H scope _ fp) (fun x z => z) g xt h7) (fun s H C cl fp => okIfs ifs (ok.blk s H scope _ fp) h8)
        (fun s H C cl fp => (okE elt (ok.blk s H scope _ fp) h9).1) h4 h5
    | dcomp own g src t k v =>
      obtain ⟨xk, xv, xt, xi, isa, scope, p, rfl, h1, h2, h3, h4, h5, h6, h7, h8, h9⟩ := inv_dcomp hm
      subst h1 h2
      simp only [List.all_eq_true, decide_eq_true_eq] at h5
      simp only [swapB, Bool.and_eq_true] at hs
      exact s_setDcomp rd ok.un ok.calm ok.nd hi (isL_ok hs.1) (swD_true hk (isL_ok hs.1) hs.2.1 (noOwn_ok hs.2.2)) (okSrc src ok h6) (blk_ok h3) (fun s H C cl fp => okG (ok.blk s H scope _ fp) (fun x z => z) g xt h7)
        (fun s H C cl fp => (okE k (ok.blk s H scope _ fp) h8).1) (fun s H C cl fp => (okE v (ok.blk s H scope _ fp) h9).1) h4 h5
    | _ => cases hc
  · cases h
end
mutual
theorem okS : ∀ (s : Stm) {X : Cx} {cf : Cf} {c : Ctx} {x : Stmt}, Okx X cf c → X.env.scope.kind = .function → (∀ y, X.fn y = true) → PassesOwn (model X.prog X.w) X.A X.env X.xe → mS cf X.N s X.env.scope x = true → PS X x (tS X.K c s)
  | .asg tg e, X, cf, c, x, ok, hk, hf, hp, h => by
    unfold mS at h
    split at h <;> first | (cases h; done) | (rename_i heq; cases heq; done) | skip
    rename_i heq
    cases heq
    split at h
    · rename_i hs
      exact okSw ok hk hs h
    · simp only [Bool.and_eq_true, Bool.or_eq_true] at h
      exact s_asg (okE e ok h.2.2.2.1).1 (okG ok (fun x _ => hf x) tg _ h.2.2.2.2) h.2.2.1 h.1 h.2.1
  | .par is es, X, cf, c, x, ok, hk, hf, hp, h => by
    unfold mS at h
    split at h <;> first | (cases h; done) | (rename_i heq; cases heq; done) | skip
    · rename_i heq
      cases heq
      simp only [Bool.and_eq_true, decide_eq_true_eq, Bool.not_eq_true'] at h
      obtain ⟨⟨hi, hj, hij⟩, ⟨hx, hy⟩, ⟨hl, hne⟩, ⟨hpl, hfo, hco⟩, hes⟩ := h
      exact s_par2 ok.calm ok.nd hi hj hij (block_fn hk) (isL_ok hx) (isL_ok hy) (okEs es ok hpl hes) hl hne hpl hfo hco
    · rename_i heq
      cases heq
      simp only [Bool.and_eq_true, decide_eq_true_eq, Bool.not_eq_true'] at h
      obtain ⟨⟨hi, hj, hl', hij, hil, hjl⟩, ⟨hx, hy, hz⟩, ⟨hl, hl2, hne, hxz, hyz⟩, ⟨hpl, hfo, hco⟩, hes⟩ := h
      exact s_par3 ok.calm ok.nd hi hj hl' hij hil hjl (block_fn hk) (isL_ok hx) (isL_ok hy) (isL_ok hz) (okEs es ok hpl hes) hl hl2 hne hxz hyz hpl hfo hco
  | .setIx o i e, X, cf, c, x, ok, hk, hf, hp, h => by
    unfold mS at h
    split at h <;> first | (cases h; done) | (rename_i heq; cases heq; done) | skip
    rename_i heq
    cases heq
    simp only [Bool.and_eq_true] at h
    exact s_setIx ok.un (okE e ok h.2.1).1 (okE o ok h.2.2.1).1 (okE i ok h.2.2.2).1 h.1
  | .aug i op e, X, cf, c, x, ok, hk, hf, hp, h => by
    unfold mS at h
    split at h <;> first | (cases h; done) | (rename_i heq; cases heq; done) | skip
    rename_i heq
    cases heq
    simp only [Bool.and_eq_true, decide_eq_true_eq] at h
    obtain ⟨h1, h2, h3, h4, h5⟩ := h
    cases opIs_ok h2
    exact s_aug h1 ok.nd h3 (loc_ok h4) (okE e ok h5).1 (.inl (hf _))
  | .ext i e, X, cf, c, x, ok, hk, hf, hp, h => by
    unfold mS at h
    split at h <;> first | (cases h; done) | (rename_i heq; cases heq; done) | skip
    rename_i heq
    cases heq
    simp only [Bool.and_eq_true, decide_eq_true_eq] at h
    exact s_ext ok.nd h.1 (loc_ok h.2.1) (okE e ok h.2.2).1 (.inl (hf _))
  | .expr e, X, cf, c, x, ok, hk, hf, hp, h => by
    unfold mS at h
    split at h <;> first | (cases h; done) | (rename_i heq; cases heq; done) | skip
    rename_i heq
    cases heq
    simp only [Bool.and_eq_true] at h
    exact s_expr (okE e ok h.2).1 h.1
  | .ret e, X, cf, c, x, ok, hk, hf, hp, h => by
    unfold mS at h
    split at h <;> first | (cases h; done) | (rename_i heq; cases heq; done) | skip
    rename_i heq
    cases heq
    exact s_ret (okE e ok h).1
  | .retN, X, cf, c, x, ok, hk, hf, hp, h => by
    cases x with
    | Return v p =>
      cases v with
      | none => exact s_retN
      | some _ => simp [mS] at h
    | _ => simp [mS] at h
  | .if_ t a b, X, cf, c, x, ok, hk, hf, hp, h => by
    unfold mS at h
    split at h <;> first | (cases h; done) | (rename_i heq; cases heq; done) | skip
    rename_i heq
    cases heq
    simp only [Bool.and_eq_true] at h
    exact s_if ((okE t ok h.2.1).2 h.1) (okSs a ok hk hf hp h.2.2.1) (okSs b ok hk hf hp h.2.2.2)
  | .for_ tg src body, X, cf, c, x, ok, hk, hf, hp, h => by
    unfold mS at h
    split at h <;> first | (cases h; done) | (rename_i heq; cases heq; done) | skip
    rename_i heq
    cases heq
    simp only [Bool.and_eq_true] at h
    exact s_for hp ok.calm (okSrc src ok h.2.1) (okG ok (fun x _ => hf x) tg _ h.2.2.1) (okSs body ok hk hf hp h.2.2.2) h.1
  | .while_ t body, X, cf, c, x, ok, hk, hf, hp, h => by
    unfold mS at h
    split at h <;> first | (cases h; done) | (rename_i heq; cases heq; done) | skip
    rename_i heq
    cases heq
    simp only [Bool.and_eq_true] at h
    exact s_while hp ((okE t ok h.2.1).2 h.1) (okSs body ok hk hf hp h.2.2)
  | .brk, X, cf, c, x, ok, hk, hf, hp, h => by
    cases x with
    | Break p => exact s_brk
    | _ => simp [mS] at h
  | .cont, X, cf, c, x, ok, hk, hf, hp, h => by
    cases x with
    | Continue p => exact s_cont
    | _ => simp [mS] at h
  | .pass, X, cf, c, x, ok, hk, hf, hp, h => by
    cases x with
    | Pass p => exact s_pass
    | _ => simp [mS] at h
  | .raise_ k es, X, cf, c, x, ok, hk, hf, hp, h => s_raise
theorem okSs : ∀ (ss : List Stm) {X : Cx} {cf : Cf} {c : Ctx} {xs : List Stmt}, Okx X cf c → X.env.scope.kind = .function → (∀ y, X.fn y = true) → PassesOwn (model X.prog X.w) X.A X.env X.xe → mSs cf X.N ss X.env.scope xs = true → PSs X xs (tSs X.K c ss)
  | [], X, cf, c, xs, ok, hk, hf, hp, h => by
    cases xs with
    | nil => exact ss_nil
    | cons _ _ => simp [mSs] at h
  | s :: ss, X, cf, c, xs, ok, hk, hf, hp, h => by
    cases xs with
    | nil => simp [mSs] at h
    | cons x xs =>
      simp only [mSs, Bool.and_eq_true] at h
      exact ss_cons (okS s ok hk hf hp h.1) (okSs ss ok hk hf hp h.2)
end

/-! ### texts -/
/-- a def of the text: its name, its text, its names, its parameters -/
structure Ent where
  x : Str
  st : Stmt
  N : List Str
  ps : List Str
def scB (N ps : List Str) (sc : Scope) : Bool := decide (sc.kind = .function) && (decide (sc.isCoroutine = false) && (decide (sc.isGenerator = false) && (decide (N.Nodup) && (decide (N.take ps.length = ps) && (ps.all (fun x => isLoc sc x) && sc.names.all (fun y => decide (y.2 ≠ .free)))))))
theorem scB_ok {N ps : List Str} {sc : Scope} (h : scB N ps sc = true) : FnScope N ps sc := by
  simp only [scB, Bool.and_eq_true, decide_eq_true_eq, List.all_eq_true, isLoc, Bool.or_eq_true] at h
  obtain ⟨h1, h2, h3, h4, h5, h6, h7⟩ := h
  exact ⟨h1, h2, h3, h4, h5, h6, h7⟩
def chkE (cf : Cf) (d : Def) (e : Ent) : Bool := decide (d.arity = e.ps.length) && (decide (d.size = e.N.length) && (scB e.N e.ps (defScope e.st) && mSs cf e.N d.body (defScope e.st) (defBody e.st)))
def chkAll (cf : Cf) : List Def → List Ent → Bool
  | [], [] => true
  | d :: ds, e :: es => chkE cf d e && chkAll cf ds es
  | _, _ => false
theorem chk_get {cf : Cf} : ∀ {ds : List Def} {es : List Ent} {f : Nat} {e : Ent}, chkAll cf ds es = true → es[f]? = some e → ∃ d, ds[f]? = some d ∧ chkE cf d e = true
  | [], [], _, _, _, q => by simp at q
  | [], _ :: _, _, _, h, _ => by simp [chkAll] at h
  | _ :: _, [], _, _, _, q => by simp at q
  | d :: ds, e :: es, 0, e', h, q => by
    simp only [chkAll, Bool.and_eq_true] at h
    simp at q
    subst q
    exact ⟨d, rfl, h.1⟩
  | d :: ds, e :: es, f + 1, e', h, q => by
    simp only [chkAll, Bool.and_eq_true] at h
    simpa using chk_get h.2 (by simpa using q)
/-- where the defs lie -/
def Lies (K : PySem.W.Frag) (mg : Str → Option Value) (e : Ent) : Prop := ∃ qual fa fd, Fun K e.x qual e.st fa fd ∧ mg e.x = some (.ref fa) ∧ Binds K fd e.ps []
def AllLie (K : PySem.W.Frag) (mg : Str → Option Value) : List Ent → Prop
  | [] => True
  | e :: es => Lies K mg e ∧ AllLie K mg es
theorem lie_get {K : PySem.W.Frag} {mg : Str → Option Value} : ∀ {es : List Ent} {f : Nat} {e : Ent}, AllLie K mg es → es[f]? = some e → Lies K mg e
  | [], _, _, _, q => by simp at q
  | e :: es, 0, e', h, q => by simp at q; subst q; exact h.1
  | e :: es, f + 1, e', h, q => lie_get h.2 (by simpa using q)
theorem all_okF {P : Program} {w : World} {K : PySem.W.Frag} {mg : Str → Option Value} {base : Heap} {PG : Prog} {es : List Ent} {cons bis : List Str} (hc : chkAll ⟨es.map (·.x), cons, bis⟩ PG.fns es = true) (hl : AllLie K mg es)
    (hcons : ∀ (i : Nat) (x : Str), cons[i]? = some x → ∃ u, mg x = some u ∧ ∀ v, PG.con[i]? = some v → flatIs v u) (hbis : ∀ x, x ∈ bis → mg x = none) :
    ∀ (k f : Nat) (e : Ent), es[f]? = some e → ∀ (qual : Str) (fa : Addr) (fd : FuncData), Fun K e.x qual e.st fa fd → FnOk P w K mg base CX0 k fa fd e.ps (spF K (callFn PG k) f)
  | 0, f, e, q, qual, fa, fd, F => by
    refine ⟨fun vs H Q E h => ?_, fun A outer s H args us vs Q E hr h0 hb hv h => ?_⟩
    · obtain ⟨hid, ρ, S, xs, hs, rl, o⟩ := h
      exact o.elim
    · obtain ⟨hid, ρ, S, xs, hs, rl, o⟩ := h
      exact o.elim
  | k + 1, f, e, q, qual, fa, fd, F => by
    obtain ⟨d, hd, hch⟩ := chk_get hc q
    simp only [chkE, Bool.and_eq_true, decide_eq_true_eq] at hch
    obtain ⟨h1, h2, h3, h4⟩ := hch
    have SC := scB_ok h3
    refine fn_okQ F SC hd h1 h2 fun cdv A outer s H E b hr => ?_
    refine okSs (X := (cxOf CX0 P w K mg base e.N qual (defScope e.st) fa cdv A outer s H E).nox) (cf := ⟨es.map (·.x), cons, bis⟩) d.body ⟨rfl, SC.nd, ?_, fun g y hy => ?_, hcons, hbis⟩ SC.kind (fun _ => rfl) PassesOwn.never h4
    · have := hr.un
      show (A.deeper _).units + 65 < cLine
      omega
    · have hy : (es.map (·.x))[g]? = some y := hy
      rw [List.getElem?_map] at hy
      cases he : es[g]? with
      | none => rw [he] at hy; cases hy
      | some e2 =>
        rw [he] at hy
        cases hy
        obtain ⟨qual2, fa2, fd2, F2, m2, b2⟩ := lie_get hl he
        exact ⟨k, fa2, fd2, e2.ps, all_okF hc hl hcons hbis k g e2 he qual2 fa2 fd2 F2, hr, m2, F2.kp, b2⟩
end QE

set_option Elab.async false
set_option linter.all false
set_option maxRecDepth 10000
set_option maxHeartbeats 1000000
/-! A law's own end: what the evaluator says of the law's def, for both ways its list may lie. -/
namespace QE
open PySem PySem.Spec PyProof.Rows L2
def intVs (ns : List Int) : List Val := ns.map .int
theorem rep_ints {K : PySem.W.Frag} {hid ρ : List Addr} {H : Hp} : ∀ ns : List Int, RepL K hid ρ H (QE.intVs ns) (ns.map V.int)
  | [] => .nil
  | n :: ns => .cons ⟨rfl, .of_int⟩ (rep_ints ns)
/-- the law's answer is True -/
def Told (r : R Val) : Prop := ∃ S, r = .ok (.bl true) S
theorem law_spec {PG : Prog} {k f : Nat} (h : ∀ ns : List Int, ns.length ≤ 63 → Told (callFn PG k f [.lst false (QE.intVs ns)] []) ∧ Told (callFn PG k f [.kls ns] [])) (K : PySem.W.Frag) (H : Hp) (a : Addr) (ns : List Int) (hn : ns.length ≤ 63) (hS : SqL K H a (ns.map V.int)) :
    spF K (callFn PG k) f [.ref a] H (fun v _ => v = .bl true) fun _ _ _ => False := by
  have s0 : SOk K [] [] H [] := ⟨rfl, List.nodup_nil, by simp, by simp, fun n o q => by simp at q⟩
  obtain ⟨⟨S1, e1⟩, ⟨S2, e2⟩⟩ := h ns hn
  rcases hS with hS | hS
  · refine ⟨[], [], [], [.lst false (QE.intVs ns)], s0, .cons ⟨rfl, ?_⟩ .nil, ?_⟩
    · simp only [Rep]
      exact ⟨a, _, rfl, hS, by simp, by simp, rep_ints ns⟩
    · rw [e1]
      exact fun ρ' H' e s u ru fu => ru.bl_
  · refine ⟨[], [], [], [.kls ns], s0, .cons ⟨rfl, ?_⟩ .nil, ?_⟩
    · simp only [Rep]
      exact ⟨a, rfl, hS⟩
    · rw [e2]
      exact fun ρ' H' e s u ru fu => ru.bl_
theorem cons_ok {mg : Str → Option Value} {con : List Val} {cons : List Str} (h : ∀ (i : Nat) (x : Str) (v : Val), cons[i]? = some x → con[i]? = some v → ∃ u, mg x = some u ∧ flatIs v u) (hl : cons.length = con.length) :
    ∀ (i : Nat) (x : Str), cons[i]? = some x → ∃ u, mg x = some u ∧ ∀ v, con[i]? = some v → flatIs v u := fun i x q => by
  have lt := (List.getElem?_eq_some_iff.mp q).1
  have q2 : con[i]? = some con[i] := List.getElem?_eq_getElem (by omega)
  obtain ⟨u, h1, h2⟩ := h i x _ q q2
  refine ⟨u, h1, fun v q3 => ?_⟩
  rw [q2] at q3
  cases q3
  exact h2
/-- where the constants lie -/
def AllCon (mg : Str → Option Value) : List Val → List Str → Prop
  | [], [] => True
  | v :: vs, x :: xs => (∃ u, mg x = some u ∧ flatIs v u) ∧ AllCon mg vs xs
  | _, _ => False
theorem con_get {mg : Str → Option Value} : ∀ {vs : List Val} {xs : List Str}, AllCon mg vs xs → ∀ (i : Nat) (x : Str), xs[i]? = some x → ∃ u, mg x = some u ∧ ∀ v, vs[i]? = some v → flatIs v u
  | [], [], _, i, x, q => by simp at q
  | [], _ :: _, h, _, _, _ => h.elim
  | _ :: _, [], h, _, _, _ => h.elim
  | v :: vs, y :: ys, h, 0, x, q => by
    simp at q
    subst q
    obtain ⟨u, h1, h2⟩ := h.1
    exact ⟨u, h1, fun v' q => by simp at q; subst q; exact h2⟩
  | v :: vs, y :: ys, h, i + 1, x, q => by simpa using con_get h.2 i x (by simpa using q)
def AllNone (mg : Str → Option Value) : List Str → Prop
  | [] => True
  | x :: xs => mg x = none ∧ AllNone mg xs
theorem none_get {mg : Str → Option Value} : ∀ {xs : List Str}, AllNone mg xs → ∀ x, x ∈ xs → mg x = none
  | [], _, x, q => by simp at q
  | y :: ys, h, x, q => by
    rcases List.mem_cons.mp q with q | q
    · subst q; exact h.1
    · exact none_get h.2 x q
theorem lie_mk {K : PySem.W.Frag} {h : Heap} {mg : Str → Option Value} {x qual : Str} {st : Stmt} {N ps : List Str} {f : Addr} {od an : Option Addr} {sl : Array (Option Value)} {oc kV dc pm cd ct : Value} (X : K.In h) (G : h.Ns mainGlobals mg)
    (a : PySem.W.nsIn K mainGlobals x = some (some (.ref f))) (l : K.lookup f = some ⟨oc, od, .func (PySem.W.fnOf x qual (defArgs st) (defBody st) (defScope st) .none kV dc pm an cd ct), sl⟩) (c : PySem.W.codeIn K cd qual = true) (k : PySem.W.keepIn K (.ref f) = true)
    (hb : ∀ (kV doc pm : Value) (an : Option Addr) (cdv ct : Value) (us : List Value), us.length = ps.length → bindArgs (PySem.W.fnOf x qual (defArgs st) (defBody st) (defScope st) .none kV doc pm an cdv ct) ⟨us, []⟩ = pure (ps.zip us)) : Lies K mg ⟨x, st, N, ps⟩ := by
  have F := fun_mk (st := st) l c k
  exact ⟨qual, f, _, F, PySem.W.mg_of X G a, F.binds hb⟩
theorem con_mk {K : PySem.W.Frag} {h : Heap} {mg : Str → Option Value} {x : Str} {v : Val} {u : Value} (X : K.In h) (G : h.Ns mainGlobals mg) (a : PySem.W.nsIn K mainGlobals x = some (some u)) (e : flatIs v u) : ∃ u, mg x = some u ∧ flatIs v u := ⟨u, PySem.W.mg_of X G a, e⟩
theorem fin_mk {P : Program} {w : World} {K : PySem.W.Frag} {mg : Str → Option Value} {PG : Prog} {es : List Ent} {cons bis : List Str} {k f : Nat} {e : Ent} {fa : Addr} (hmg : mg "law" = some (.ref fa)) (hc : chkAll ⟨es.map (·.x), cons, bis⟩ PG.fns es = true) (hl : AllLie K mg es)
    (hcons : AllCon mg PG.con cons) (hbis : AllNone mg bis) (q : es[f]? = some e) (ex : e.x = "law") (ep : e.ps = [PySem.Str.ofString "script"])
    (hb : ∀ (qual : Str) (kV doc pm : Value) (an : Option Addr) (cdv ct v : Value), bindArgs (PySem.W.fnOf e.x qual (defArgs e.st) (defBody e.st) (defScope e.st) .none kV doc pm an cdv ct) ⟨[v], []⟩ = pure [(PySem.Str.ofString "script", v)]) :
    ∃ fd : FuncData, (∀ (s : Shared) (v : Value), BindsTo s fd ⟨[v], []⟩ [("script", v)]) ∧ ∀ base : Heap, K.In base → base.Ns mainGlobals mg → FnOk P w K mg base CX0 k fa fd ["script"] (spF K (callFn PG k) f) := by
  obtain ⟨qual, fa', fd, F, hm, b⟩ := lie_get hl q
  have hh := hm
  rw [ex, hmg] at hh
  cases hh
  refine ⟨fd, fun s v => ?_, fun base _ _ => ?_⟩
  · obtain ⟨oc, od, kV, doc, pm, an, cdv, ct, osl, rfl, lk, hcd⟩ := F.ex
    exact .of_eq (hb qual kV doc pm an cdv ct v)
  · have := all_okF (P := P) (w := w) (base := base) hc hl (con_get hcons) (none_get hbis) k f e q qual fa fd F
    rw [ep] at this
    exact this
end QE

namespace K01
open QE
/-- is_whole: 0 value -/
def d_is_whole : Def := ⟨1, 1, [(.ret (.and [(.isi .int (.var 0)), (.not (.isi .bool (.var 0)))]))]⟩
def n_is_whole : List String := ["value"]
/-- fits_whole: 0 value 1 low 2 high -/
def d_fits_whole : Def := ⟨3, 3, [(.ret (.and [(.call 0 [(.var 0)]), (.chain .le .le (.var 1) (.var 0) (.var 2))]))]⟩
def n_fits_whole : List String := ["value", "low", "high"]
/-- is_tuple_of: 0 value 1 least 2 most -/
def d_is_tuple_of : Def := ⟨3, 3, [(.ret (.and [(.isi .tuple (.var 0)), (.chain .le .le (.var 1) (.bi .len [(.var 0)]) (.var 2))]))]⟩
def n_is_tuple_of : List String := ["value", "least", "most"]
/-- is_rising: 0 values 1 one 2 other -/
def d_is_rising : Def := ⟨1, 3, [(.ret (.bi .all [(.comp [1, 2] (.tup [(.name 1), (.name 2)]) (.zip (.var 0) (.slice (.var 0) (some (.lit (.int 1))) none)) [] (.cmp .lt (.var 1) (.var 2)))]))]⟩
def n_is_rising : List String := ["values", "one", "other"]
/-- fits_gathering: 0 value 1 one -/
def d_fits_gathering : Def := ⟨1, 2, [(.if_ (.or [(.not (.call 2 [(.var 0), (.lit (.int 2)), (.lit (.int 2))])), (.not (.call 1 [(.idx (.var 0) (.lit (.int 0))), (.lit (.int 1)), (.con 0)]))]) [(.ret (.lit (.bl false)))] []), (.if_ (.not (.call 2 [(.idx (.var 0) (.lit (.int 1))), (.lit (.int 1)), (.bin .mul (.lit (.int 2)) (.idx (.var 0) (.lit (.int 0))))])) [(.ret (.lit (.bl false)))] []), (.ret (.and [(.bi .all [(.comp [1] (.name 1) (.it (.idx (.var 0) (.lit (.int 1)))) [] (.call 1 [(.var 1), (.lit (.int 1)), (.bin .mul (.lit (.int 2)) (.idx (.var 0) (.lit (.int 0))))]))]), (.call 3 [(.idx (.var 0) (.lit (.int 1)))])]))]⟩
def n_fits_gathering : List String := ["value", "one"]
/-- fits_book: 0 value 1 one -/
def d_fits_book : Def := ⟨1, 2, [(.ret (.and [(.call 2 [(.var 0), (.lit (.int 1)), (.con 1)]), (.bi .all [(.comp [1] (.name 1) (.it (.var 0)) [] (.call 4 [(.var 1)]))])]))]⟩
def n_fits_book : List String := ["value", "one"]
/-- need_book: 0 value -/
def d_need_book : Def := ⟨1, 1, [(.if_ (.not (.call 5 [(.var 0)])) [(.raise_ 1 [(.lit (.str [110, 111, 116, 32, 97, 32, 98, 111, 111, 107]))])] [])]⟩
def n_need_book : List String := ["value"]
/-- need_leaf: 0 book 1 value -/
def d_need_leaf : Def := ⟨2, 2, [(.if_ (.not (.call 1 [(.var 1), (.lit (.int 0)), (.bin .sub (.bi .len [(.call 8 [(.var 0)])]) (.lit (.int 1)))])) [(.raise_ 3 [(.lit (.str [110, 111, 116, 32, 97, 32, 108, 101, 97, 102, 32, 111, 102, 32, 116, 104, 101, 32, 98, 111, 111, 107]))])] [])]⟩
def n_need_leaf : List String := ["book", "value"]
/-- places_in: 0 book 1 found 2 at 3 sheets 4 present 5 place -/
def d_places_in : Def := ⟨1, 6, [(.asg (.name 1) (.cell (.list []))), (.for_ (.tup [(.name 2), (.tup [(.name 3), (.name 4)])]) (.enum (.var 0)) [(.ext 1 (.comp [5] (.name 5) (.it (.var 4)) [] (.tup [(.var 2), (.var 5)])))]), (.ret (.var 1))]⟩
def n_places_in : List String := ["book", "found", "at", "sheets", "present", "place"]
/-- pairs_in: 0 book 1 places 2 number 3 found 4 leaf 5 at 6 place 7 mate -/
def d_pairs_in : Def := ⟨1, 8, [(.asg (.name 1) (.call 8 [(.var 0)])), (.asg (.name 2) (.dcomp [4, 6] (.tup [(.name 4), (.name 6)]) (.enum (.var 1)) true (.var 6) (.var 4))), (.asg (.name 3) (.cell (.list []))), (.for_ (.tup [(.name 4), (.tup [(.name 5), (.name 6)])]) (.enum (.var 1)) [(.asg (.name 7) (.tup [(.var 5), (.bin .sub (.bin .add (.bin .mul (.lit (.int 2)) (.idx (.idx (.var 0) (.var 5)) (.lit (.int 0)))) (.lit (.int 1))) (.var 6))])), (.if_ (.and [(.cmp .in_ (.var 7) (.var 2)), (.cmp .gt (.idx (.var 2) (.var 7)) (.var 4))]) [(.expr (.append (.var 3) (.tup [(.var 4), (.idx (.var 2) (.var 7))])))] [])]), (.ret (.var 3))]⟩
def n_pairs_in : List String := ["book", "places", "number", "found", "leaf", "at", "place", "mate"]
/-- lone_in: 0 book 1 joined 2 one 3 other 4 leaf -/
def d_lone_in : Def := ⟨1, 5, [(.asg (.name 1) (.cell (.list []))), (.for_ (.tup [(.name 2), (.name 3)]) (.it (.call 9 [(.var 0)])) [(.ext 1 (.list [(.var 2), (.var 3)]))]), (.ret (.comp [4] (.name 4) (.rng1 (.bi .len [(.call 8 [(.var 0)])])) [(.cmp .nin (.var 4) (.var 1))] (.var 4)))]⟩
def n_lone_in : List String := ["book", "joined", "one", "other", "leaf"]
/-- fits_marks: 0 many 1 value 2 named 3 pair 4 one 5 other -/
def d_fits_marks : Def := ⟨2, 6, [(.if_ (.or [(.not (.call 2 [(.var 1), (.lit (.int 2)), (.lit (.int 2))])), (.not (.call 2 [(.idx (.var 1) (.lit (.int 0))), (.lit (.int 0)), (.var 0)])), (.not (.call 2 [(.idx (.var 1) (.lit (.int 1))), (.lit (.int 0)), (.var 0)]))]) [(.ret (.lit (.bl false)))] []), (.if_ (.not (.bi .all [(.comp [3] (.name 3) (.it (.idx (.var 1) (.lit (.int 0)))) [] (.call 2 [(.var 3), (.lit (.int 2)), (.lit (.int 2))]))])) [(.ret (.lit (.bl false)))] []), (.asg (.name 2) (.cell (.list []))), (.for_ (.name 3) (.it (.idx (.var 1) (.lit (.int 0)))) [(.ext 2 (.bi .list [(.var 3)]))]), (.if_ (.not (.bi .all [(.comp [4] (.name 4) (.it (.bin .add (.var 2) (.bi .list [(.idx (.var 1) (.lit (.int 1)))]))) [] (.call 1 [(.var 4), (.lit (.int 0)), (.bin .sub (.var 0) (.lit (.int 1)))]))])) [(.ret (.lit (.bl false)))] []), (.if_ (.or [(.not (.bi .all [(.comp [4, 5] (.tup [(.name 4), (.name 5)]) (.it (.idx (.var 1) (.lit (.int 0)))) [] (.cmp .lt (.var 4) (.var 5)))])), (.not (.call 3 [(.idx (.var 1) (.lit (.int 0)))])), (.not (.call 3 [(.idx (.var 1) (.lit (.int 1)))]))]) [(.ret (.lit (.bl false)))] []), (.ret (.bi .all [(.comp [4] (.name 4) (.it (.bin .add (.var 2) (.bi .list [(.idx (.var 1) (.lit (.int 1)))]))) [] (.cmp .eq (.meth .count (.bin .add (.var 2) (.bi .list [(.idx (.var 1) (.lit (.int 1)))])) (.var 4)) (.lit (.int 1))))]))]⟩
def n_fits_marks : List String := ["many", "value", "named", "pair", "one", "other"]
/-- is_book: 0 value -/
def d_is_book : Def := ⟨1, 1, [(.ret (.call 5 [(.var 0)]))]⟩
def n_is_book : List String := ["value"]
/-- leaves_many: 0 book -/
def d_leaves_many : Def := ⟨1, 1, [(.expr (.call 6 [(.var 0)])), (.ret (.bi .len [(.call 8 [(.var 0)])]))]⟩
def n_leaves_many : List String := ["book"]
/-- lost_many: 0 book 1 sheets 2 present -/
def d_lost_many : Def := ⟨1, 3, [(.expr (.call 6 [(.var 0)])), (.ret (.bi .sum [(.comp [1, 2] (.tup [(.name 1), (.name 2)]) (.it (.var 0)) [] (.bin .sub (.bin .mul (.lit (.int 2)) (.var 1)) (.bi .len [(.var 2)])))]))]⟩
def n_lost_many : List String := ["book", "sheets", "present"]
/-- place_of: 0 book 1 leaf -/
def d_place_of : Def := ⟨2, 2, [(.expr (.call 6 [(.var 0)])), (.expr (.call 7 [(.var 0), (.var 1)])), (.ret (.idx (.call 8 [(.var 0)]) (.var 1)))]⟩
def n_place_of : List String := ["book", "leaf"]
/-- mate_of: 0 book 1 leaf 2 found 3 one 4 other -/
def d_mate_of : Def := ⟨2, 5, [(.expr (.call 6 [(.var 0)])), (.expr (.call 7 [(.var 0), (.var 1)])), (.asg (.name 2) (.comp [3, 4] (.tup [(.name 3), (.name 4)]) (.it (.call 9 [(.var 0)])) [(.cmp .in_ (.var 1) (.tup [(.var 3), (.var 4)]))] (.ite (.cmp .eq (.var 3) (.var 1)) (.var 4) (.var 3)))), (.ret (.ite (.cmp .ne (.var 2) (.list [])) (.idx (.var 2) (.lit (.int 0))) (.lit .non)))]⟩
def n_mate_of : List String := ["book", "leaf", "found", "one", "other"]
/-- marks_of: 0 book -/
def d_marks_of : Def := ⟨1, 1, [(.expr (.call 6 [(.var 0)])), (.ret (.tup [(.bi .tuple [(.call 9 [(.var 0)])]), (.bi .tuple [(.call 10 [(.var 0)])])]))]⟩
def n_marks_of : List String := ["book"]
/-- sides_of: 0 book 1 leaf 2 at 3 place 4 sheet 5 outer 6 inner -/
def d_sides_of : Def := ⟨2, 7, [(.expr (.call 6 [(.var 0)])), (.expr (.call 7 [(.var 0), (.var 1)])), (.asg (.tup [(.name 2), (.name 3)]) (.idx (.call 8 [(.var 0)]) (.var 1))), (.asg (.name 4) (.bi .min2 [(.var 3), (.bin .sub (.bin .add (.bin .mul (.lit (.int 2)) (.idx (.idx (.var 0) (.var 2)) (.lit (.int 0)))) (.lit (.int 1))) (.var 3))])), (.asg (.tup [(.name 5), (.name 6)]) (.ite (.cmp .eq (.bin .mod (.var 4) (.lit (.int 2))) (.lit (.int 1))) (.tup [(.lit (.str [104])), (.lit (.str [102]))]) (.tup [(.lit (.str [102])), (.lit (.str [104]))]))), (.ret (.ite (.cmp .eq (.var 3) (.var 4)) (.tup [(.var 5), (.var 6)]) (.tup [(.var 6), (.var 5)])))]⟩
def n_sides_of : List String := ["book", "leaf", "at", "place", "sheet", "outer", "inner"]
/-- unlike_openings: 0 book 1 sides 2 leaf 3 at -/
def d_unlike_openings : Def := ⟨1, 4, [(.expr (.call 6 [(.var 0)])), (.asg (.name 1) (.comp [2] (.name 2) (.rng1 (.bi .len [(.call 8 [(.var 0)])])) [] (.call 18 [(.var 0), (.var 2)]))), (.ret (.bi .tuple [(.comp [3] (.name 3) (.rng1 (.bin .sub (.bi .len [(.var 1)]) (.lit (.int 1)))) [(.cmp .ne (.idx (.idx (.var 1) (.var 3)) (.lit (.int 1))) (.idx (.idx (.var 1) (.bin .add (.var 3) (.lit (.int 1)))) (.lit (.int 0))))] (.var 3))]))]⟩
def n_unlike_openings : List String := ["book", "sides", "leaf", "at"]
/-- does_fit: 0 book 1 marks 2 own 3 lone 4 pair 5 leaf -/
def d_does_fit : Def := ⟨2, 6, [(.expr (.call 6 [(.var 0)])), (.if_ (.cmp .gt (.bi .len [(.call 8 [(.var 0)])]) (.con 2)) [(.raise_ 1 [(.lit (.str [109, 111, 114, 101, 32, 116, 104, 97, 110, 32, 102, 111, 114, 116, 121, 32, 108, 101, 97, 118, 101, 115]))])] []), (.if_ (.not (.call 11 [(.bi .len [(.call 8 [(.var 0)])]), (.var 1)])) [(.raise_ 2 [(.lit (.str [110, 111, 116, 32, 109, 97, 114, 107, 115, 32, 111, 102, 32, 116, 104, 101, 32, 108, 101, 97, 118, 101, 115]))])] []), (.asg (.tup [(.name 2), (.name 3)]) (.tup [(.call 9 [(.var 0)]), (.call 10 [(.var 0)])])), (.ret (.and [(.bi .all [(.comp [4] (.name 4) (.it (.idx (.var 1) (.lit (.int 0)))) [] (.cmp .in_ (.var 4) (.var 2)))]), (.bi .all [(.comp [5] (.name 5) (.it (.idx (.var 1) (.lit (.int 1)))) [] (.cmp .in_ (.var 5) (.var 3)))])]))]⟩
def n_does_fit : List String := ["book", "marks", "own", "lone", "pair", "leaf"]
/-- _law_cup: 0 script 1 cell -/
def d__law_cup : Def := ⟨1, 2, [(.asg (.name 1) (.bi .abs [(.idx (.bin .add (.bi .list [(.var 0)]) (.list [(.lit (.int 0))])) (.lit (.int 0)))])), (.ret (.list [(.ite (.cmp .ge (.var 1) (.bin .pow (.lit (.int 10)) (.lit (.int 18)))) (.bin .fdiv (.var 1) (.lit (.int 101))) (.lit (.int 0))), (.bin .add (.bin .mod (.bi .int [(.bin .add (.bin .mul (.var 1) (.lit (.int 311))) (.lit (.int 4001)))]) (.lit (.int 2077502437))) (.lit (.int 211)))]))]⟩
def n__law_cup : List String := ["script", "cell"]
/-- _law_roll: 0 cup 1 many 2 found 3 deep -/
def d__law_roll : Def := ⟨2, 4, [(.if_ (.cmp .gt (.idx (.var 0) (.lit (.int 0))) (.lit (.int 0))) [(.asg (.name 2) (.bin .mod (.bi .int [(.idx (.var 0) (.lit (.int 0)))]) (.var 1))), (.setIx (.var 0) (.lit (.int 0)) (.bin .fdiv (.idx (.var 0) (.lit (.int 0))) (.var 1))), (.ret (.var 2))] []), (.setIx (.var 0) (.lit (.int 1)) (.bin .mod (.bi .int [(.bin .add (.bin .mul (.idx (.var 0) (.lit (.int 1))) (.lit (.int 31013))) (.lit (.int 8009)))]) (.lit (.int 2147483629)))), (.asg (.name 3) (.bin .mod (.bi .int [(.bin .mul (.idx (.var 0) (.lit (.int 1))) (.bin .add (.idx (.var 0) (.lit (.int 1))) (.lit (.int 283))))]) (.lit (.int 2147483059)))), (.ret (.bin .mod (.bi .int [(.bin .fdiv (.var 3) (.lit (.int 811)))]) (.var 1)))]⟩
def n__law_roll : List String := ["cup", "many", "found", "deep"]
/-- _law_same: 0 told 1 due 2 at -/
def d__law_same : Def := ⟨2, 3, [(.if_ (.isi .tuple (.var 1)) [(.if_ (.or [(.not (.isi .tuple (.var 0))), (.cmp .ne (.bi .len [(.var 0)]) (.bi .len [(.var 1)]))]) [(.ret (.lit (.bl false)))] []), (.ret (.bi .all [(.comp [2] (.name 2) (.rng1 (.bi .len [(.var 1)])) [] (.call 23 [(.idx (.var 0) (.var 2)), (.idx (.var 1) (.var 2))]))]))] []), (.if_ (.cmp .is_ (.var 1) (.lit .non)) [(.ret (.cmp .is_ (.var 0) (.lit .non)))] []), (.if_ (.isi .bool (.var 1)) [(.ret (.ite (.var 1) (.cmp .is_ (.var 0) (.lit (.bl true))) (.cmp .is_ (.var 0) (.lit (.bl false)))))] []), (.if_ (.isi .int (.var 1)) [(.ret (.and [(.isi .int (.var 0)), (.not (.isi .bool (.var 0))), (.cmp .eq (.bi .int [(.var 0)]) (.var 1))]))] []), (.ret (.and [(.isi .str (.var 0)), (.cmp .eq (.bi .str [(.var 0)]) (.var 1))]))]⟩
def n__law_same : List String := ["told", "due", "at"]
/-- _law_book: 0 cup 1 most 2 sheets 3 found 4 turn 5 many 6 present 7 place -/
def d__law_book : Def := ⟨3, 8, [(.asg (.name 3) (.tup [])), (.for_ (.name 4) (.rng1 (.bin .add (.lit (.int 1)) (.call 22 [(.var 0), (.var 1)]))) [(.asg (.name 5) (.bin .add (.lit (.int 1)) (.call 22 [(.var 0), (.var 2)]))), (.asg (.name 6) (.bi .tuple [(.comp [7] (.name 7) (.rng2 (.lit (.int 1)) (.bin .add (.bin .mul (.lit (.int 2)) (.var 5)) (.lit (.int 1)))) [(.cmp .gt (.call 22 [(.var 0), (.lit (.int 4))]) (.lit (.int 0)))] (.var 7))])), (.asg (.name 3) (.bin .add (.var 3) (.tup [(.tup [(.var 5), (.ite (.cmp .ne (.var 6) (.tup [])) (.var 6) (.tup [(.bin .add (.lit (.int 1)) (.call 22 [(.var 0), (.bin .mul (.lit (.int 2)) (.var 5))]))]))])])))]), (.ret (.var 3))]⟩
def n__law_book : List String := ["cup", "most", "sheets", "found", "turn", "many", "present", "place"]
/-- _law_places: 0 book 1 found 2 at 3 place -/
def d__law_places : Def := ⟨1, 4, [(.asg (.name 1) (.list [])), (.for_ (.name 2) (.rng1 (.bi .len [(.var 0)])) [(.asg (.name 1) (.bin .add (.var 1) (.comp [3] (.name 3) (.it (.idx (.idx (.var 0) (.var 2)) (.lit (.int 1)))) [] (.tup [(.var 2), (.var 3)]))))]), (.ret (.var 1))]⟩
def n__law_places : List String := ["book", "found", "at", "place"]
/-- _law_mate: 0 book 1 places 2 leaf 3 at 4 place 5 other -/
def d__law_mate : Def := ⟨3, 6, [(.asg (.tup [(.name 3), (.name 4)]) (.idx (.var 1) (.var 2))), (.asg (.name 5) (.tup [(.var 3), (.bin .sub (.bin .add (.bin .mul (.lit (.int 2)) (.idx (.idx (.var 0) (.var 3)) (.lit (.int 0)))) (.lit (.int 1))) (.var 4))])), (.ret (.ite (.cmp .in_ (.var 5) (.var 1)) (.meth .index (.var 1) (.var 5)) (.lit .non)))]⟩
def n__law_mate : List String := ["book", "places", "leaf", "at", "place", "other"]
/-- law: 0 script 1 cup 2 turn 3 book 4 places 5 lost 6 mates 7 due 8 sides 9 at 10 page 11 told 12 leaf 13 whole 14 odd 15 sheets 16 present 17 some 18 place 19 other 20 value -/
def d_law : Def := ⟨1, 21, [(.asg (.name 1) (.cell (.call 21 [(.var 0)]))), (.for_ (.name 2) (.rng1 (.lit (.int 4))) [(.asg (.name 3) (.call 24 [(.var 1), (.lit (.int 5)), (.lit (.int 8))])), (.asg (.name 4) (.call 25 [(.var 3)])), (.asg (.name 5) (.bin .sub (.bi .sum [(.comp [15, 16] (.tup [(.name 15), (.name 16)]) (.it (.var 3)) [] (.bin .mul (.lit (.int 2)) (.var 15)))]) (.bi .len [(.var 4)]))), (.if_ (.or [(.cmp .isn (.call 12 [(.var 3)]) (.lit (.bl true))), (.not (.call 23 [(.tup [(.call 13 [(.var 3)]), (.call 14 [(.var 3)])]), (.tup [(.bi .len [(.var 4)]), (.var 5)])]))]) [(.ret (.lit (.bl false)))] []), (.asg (.name 6) (.comp [12] (.name 12) (.rng1 (.bi .len [(.var 4)])) [] (.call 26 [(.var 3), (.var 4), (.var 12)]))), (.asg (.name 7) (.tup [(.bi .tuple [(.comp [12, 19] (.tup [(.name 12), (.name 19)]) (.enum (.var 6)) [(.and [(.cmp .isn (.var 19) (.lit .non)), (.cmp .gt (.var 19) (.var 12))])] (.tup [(.var 12), (.var 19)]))]), (.bi .tuple [(.comp [12, 19] (.tup [(.name 12), (.name 19)]) (.enum (.var 6)) [(.cmp .is_ (.var 19) (.lit .non))] (.var 12))])])), (.if_ (.or [(.not (.call 23 [(.call 17 [(.var 3)]), (.var 7)])), (.and [(.cmp .lt (.bi .len [(.var 4)]) (.lit (.int 41))), (.cmp .isn (.call 20 [(.var 3), (.var 7)]) (.lit (.bl true)))])]) [(.ret (.lit (.bl false)))] []), (.asg (.name 8) (.cell (.dnew true))), (.for_ (.name 9) (.rng1 (.bi .len [(.var 3)])) [(.for_ (.name 10) (.rng1 (.bin .mul (.lit (.int 4)) (.idx (.idx (.var 3) (.var 9)) (.lit (.int 0))))) [(.setIx (.var 8) (.tup [(.var 9), (.bin .add (.bin .fdiv (.var 10) (.lit (.int 2))) (.lit (.int 1))), (.bin .mod (.var 10) (.lit (.int 2)))]) (.ite (.cmp .eq (.bin .mod (.bin .fdiv (.bin .add (.var 10) (.lit (.int 1))) (.lit (.int 2))) (.lit (.int 2))) (.lit (.int 0))) (.lit (.str [104])) (.lit (.str [102]))))])]), (.asg (.name 11) (.comp [9, 18] (.tup [(.name 9), (.name 18)]) (.it (.var 4)) [] (.tup [(.idx (.var 8) (.tup [(.var 9), (.var 18), (.lit (.int 0))])), (.idx (.var 8) (.tup [(.var 9), (.var 18), (.lit (.int 1))]))]))), (.for_ (.name 12) (.rng1 (.bi .len [(.var 4)])) [(.if_ (.not (.call 23 [(.tup [(.call 15 [(.var 3), (.var 12)]), (.call 16 [(.var 3), (.var 12)]), (.call 18 [(.var 3), (.var 12)])]), (.tup [(.idx (.var 4) (.var 12)), (.idx (.var 6) (.var 12)), (.idx (.var 11) (.var 12))])])) [(.ret (.lit (.bl false)))] [])]), (.if_ (.not (.call 23 [(.call 19 [(.var 3)]), (.bi .tuple [(.comp [12] (.name 12) (.rng1 (.bin .sub (.bi .len [(.var 11)]) (.lit (.int 1)))) [(.cmp .ne (.idx (.idx (.var 11) (.var 12)) (.lit (.int 1))) (.idx (.idx (.var 11) (.bin .add (.var 12) (.lit (.int 1)))) (.lit (.int 0))))] (.var 12))])])) [(.ret (.lit (.bl false)))] []), (.asg (.name 13) (.list [])), (.for_ (.name 9) (.rng1 (.bi .len [(.var 3)])) [(.asg (.name 13) (.bin .add (.var 13) (.comp [18] (.name 18) (.rng2 (.lit (.int 1)) (.bin .add (.bin .mul (.lit (.int 2)) (.idx (.idx (.var 3) (.var 9)) (.lit (.int 0)))) (.lit (.int 1)))) [] (.tup [(.var 9), (.var 18)]))))]), (.asg (.name 14) (.comp [12] (.name 12) (.rng1 (.bin .sub (.bi .len [(.var 4)]) (.lit (.int 1)))) [(.cmp .eq (.bin .mod (.bin .sub (.meth .index (.var 13) (.idx (.var 4) (.bin .add (.var 12) (.lit (.int 1))))) (.meth .index (.var 13) (.idx (.var 4) (.var 12)))) (.lit (.int 2))) (.lit (.int 0)))] (.var 12))), (.if_ (.not (.call 23 [(.call 19 [(.var 3)]), (.bi .tuple [(.var 14)])])) [(.ret (.lit (.bl false)))] []), (.asg (.tup [(.name 15), (.name 16)]) (.idx (.var 3) (.lit (.int 0)))), (.asg (.name 17) (.list [(.lit .non), (.tup []), (.bi .list [(.var 3)]), (.idx (.var 3) (.lit (.int 0))), (.tup [(.tup [(.var 15), (.tup [])])]), (.tup [(.tup [(.lit (.int 0)), (.tup [(.lit (.int 1))])])]), (.tup [(.tup [(.lit (.int 9)), (.tup [(.lit (.int 1))])])]), (.tup [(.tup [(.var 15), (.bin .add (.var 16) (.tup [(.bin .add (.bin .mul (.lit (.int 2)) (.var 15)) (.lit (.int 1)))]))])]), (.tup [(.tup [(.var 15), (.tup [(.lit (.int 0))])])]), (.tup [(.tup [(.var 15), (.tup [(.lit (.int 1)), (.lit (.int 1))])])]), (.tup [(.tup [(.lit (.int 2)), (.tup [(.lit (.int 2)), (.lit (.int 1))])])])])), (.asg (.name 17) (.bin .add (.var 17) (.list [(.tup [(.tup [(.var 15), (.bi .list [(.var 16)])])]), (.tup [(.list [(.var 15), (.var 16)])]), (.tup [(.tup [(.lit (.bl true)), (.tup [(.lit (.int 1))])])]), (.tup [(.tup [(.lit (.int 1)), (.tup [(.lit (.bl true))])])]), (.tup [(.tup [(.lit (.int 1)), (.tup [(.lit (.int 1)), (.lit (.int 2)), (.lit (.int 3))])])]), (.tup [(.tup [(.var 15), (.var 16), (.lit (.int 1))])]), (.tup [(.lit .non)]), (.tup [(.tup [(.lit (.int 1)), (.lit (.str [49]))])]), (.bin .mul (.tup [(.tup [(.lit (.int 1)), (.tup [(.lit (.int 1))])])]) (.lit (.int 41))), (.bin .add (.var 3) (.tup [(.lit .non)]))]))), (.if_ (.or [(.cmp .ne (.comp [20] (.name 20) (.it (.var 17)) [(.cmp .isn (.call 12 [(.var 20)]) (.lit (.bl false)))] (.var 20)) (.list [])), (.cmp .isn (.call 12 [(.bin .mul (.tup [(.tup [(.lit (.int 1)), (.tup [(.lit (.int 1))])])]) (.lit (.int 40)))]) (.lit (.bl true)))]) [(.ret (.lit (.bl false)))] [])]), (.ret (.lit (.bl true)))]⟩
def n_law : List String := ["script", "cup", "turn", "book", "places", "lost", "mates", "due", "sides", "at", "page", "told", "leaf", "whole", "odd", "sheets", "present", "some", "place", "other", "value"]
def cons : List Val := [(.int 8), (.int 40), (.int 40)]
def prog : Prog := ⟨[d_is_whole, d_fits_whole, d_is_tuple_of, d_is_rising, d_fits_gathering, d_fits_book, d_need_book, d_need_leaf, d_places_in, d_pairs_in, d_lone_in, d_fits_marks, d_is_book, d_leaves_many, d_lost_many, d_place_of, d_mate_of, d_marks_of, d_sides_of, d_unlike_openings, d_does_fit, d__law_cup, d__law_roll, d__law_same, d__law_book, d__law_places, d__law_mate, d_law], cons, 100000⟩
abbrev f_is_whole : Nat := 0
abbrev f_fits_whole : Nat := 1
abbrev f_is_tuple_of : Nat := 2
abbrev f_is_rising : Nat := 3
abbrev f_fits_gathering : Nat := 4
abbrev f_fits_book : Nat := 5
abbrev f_need_book : Nat := 6
abbrev f_need_leaf : Nat := 7
abbrev f_places_in : Nat := 8
abbrev f_pairs_in : Nat := 9
abbrev f_lone_in : Nat := 10
abbrev f_fits_marks : Nat := 11
abbrev f_is_book : Nat := 12
abbrev f_leaves_many : Nat := 13
abbrev f_lost_many : Nat := 14
abbrev f_place_of : Nat := 15
abbrev f_mate_of : Nat := 16
abbrev f_marks_of : Nat := 17
abbrev f_sides_of : Nat := 18
abbrev f_unlike_openings : Nat := 19
abbrev f_does_fit : Nat := 20
abbrev f__law_cup : Nat := 21
abbrev f__law_roll : Nat := 22
abbrev f__law_same : Nat := 23
abbrev f__law_book : Nat := 24
abbrev f__law_places : Nat := 25
abbrev f__law_mate : Nat := 26
abbrev f_law : Nat := 27
end K01

set_option linter.all false
set_option maxRecDepth 10000
/-! Runs of the evaluator over data that is not known. -/
namespace QE
@[simp] theorem R.bind_okS {α β : Type} (a : α) (S : Sto) (f : α → Sto → R β) : (R.ok a S).bind f = f a S := by exact id rfl
@[simp] theorem R.calm_okS {α : Type} (a : α) (S : Sto) : (R.ok a S).calm = .ok a S := by exact id rfl
@[simp] theorem R.of_some {α : Type} (a : α) (S : Sto) : R.of (some a) S = .ok a S := by exact id rfl
@[simp] theorem R.ite_ok {α : Type} {p : Prop} [Decidable p] (a b : α) (S : Sto) : (if p then R.ok a S else R.ok b S) = R.ok (if p then a else b) S := by split <;> rfl
@[simp] theorem len_le_self {α : Type} (S : List α) : (S.length ≤ S.length) = True := by simp
theorem comp_run {α : Type} {tg : T} {test : Env → Sto → R Bool} {elt : Env → Sto → R Val} {env : Env} {S : Sto} (e : α → Val) (p : α → Bool) (g : α → Val) :
    ∀ (xs : List α), (∀ a ∈ xs, ∃ env', bindT tg (e a) env = some env' ∧ test env' S = .ok (p a) S ∧ (p a = true → elt env' S = .ok (g a) S)) →
    compLoop tg test elt env (xs.map e) S = .ok ((xs.filter p).map fun a => (g a).settle) S
  | [], _ => rfl
  | x :: xs, h => by
    obtain ⟨env', h1, h2, h3⟩ := h x (by simp)
    have ih := comp_run e p g xs fun a ha => h a (List.mem_cons_of_mem _ ha)
    simp only [List.map_cons, compLoop, h1, h2, R.bind_okS]
    cases hp : p x with
    | true => simp [h3 hp, ih, List.filter_cons, hp]
    | false => simp [ih, List.filter_cons, hp]
theorem comp_all {α : Type} {tg : T} {c : Ctx} {elt : Env → Sto → R Val} {env : Env} {S : Sto} (e : α → Val) (g : α → Val) (xs : List α) (h : ∀ a ∈ xs, ∃ env', bindT tg (e a) env = some env' ∧ elt env' S = .ok (g a) S) :
    compLoop tg (evalAnd c []) elt env (xs.map e) S = .ok (xs.map fun a => (g a).settle) S := by
  have := comp_run (tg := tg) (test := evalAnd c []) (elt := elt) (env := env) (S := S) e (fun _ => true) g xs fun a ha => by
    obtain ⟨env', h1, h2⟩ := h a ha
    exact ⟨env', h1, by simp [evalAnd], fun _ => h2⟩
  rw [this, List.filter_eq_self.mpr (fun _ _ => rfl)]
theorem for_run {α : Type} {tg : T} {body : Env → Sto → R (Fl × Env)} (e : α → Val) (I : Nat → Env → Sto → Prop) :
    ∀ (xs : List α) (n : Nat) (env : Env) (S : Sto), I n env S → (∀ i a env S, xs[i]? = some a → I (n + i) env S → ∃ env' env2 S2, bindT tg (e a) env = some env' ∧ body env' S = .ok (.nx, env2) S2 ∧ I (n + i + 1) env2 S2) →
    ∃ env2 S2, forLoop tg body (xs.map e) env S = .ok (.nx, env2) S2 ∧ I (n + xs.length) env2 S2
  | [], n, env, S, h0, _ => ⟨env, S, rfl, h0⟩
  | x :: xs, n, env, S, h0, h => by
    obtain ⟨env', env2, S2, h1, h2, h3⟩ := h 0 x env S rfl h0
    obtain ⟨env3, S3, h4, h5⟩ := for_run e I xs (n + 1) env2 S2 h3 fun i a env S q r => by
      have := h (i + 1) a env S (by simpa using q) (by rw [show n + (i + 1) = n + 1 + i by omega]; exact r)
      rw [show n + (i + 1) = n + 1 + i by omega] at this
      exact this
    refine ⟨env3, S3, ?_, by rw [List.length_cons, show n + (xs.length + 1) = n + 1 + xs.length by omega]; exact h5⟩
    simp only [List.map_cons, forLoop, h1, h2, R.bind_okS, h4]
theorem ss_step {c : Ctx} {s : Stm} {ss : List Stm} {env env' : Env} {S S' : Sto} {r : R (Fl × Env)} (h : execS c s env S = .ok (.nx, env') S') (k : execSs c ss env' S' = r) : execSs c (s :: ss) env S = r := by
  simp only [execSs, h, R.bind_okS, k]
theorem rangeV_map (a : Int) : ∀ n : Nat, rangeV a n = (List.range n).map fun i => .int (a + (i : Nat))
  | 0 => rfl
  | n + 1 => by
    rw [rangeV, rangeV_map (a + 1) n, List.range_succ_eq_map, List.map_cons, List.map_map]
    simp only [Int.natCast_zero, Int.add_zero, List.cons.injEq, true_and]
    apply List.map_congr_left
    intro i _
    simp only [Function.comp_apply]
    congr 1
    push_cast
    omega
theorem bools_map {α : Type} (p : α → Bool) : ∀ xs : List α, bools? (xs.map fun a => .bl (p a)) = some (xs.map p)
  | [] => rfl
  | x :: xs => by simp [bools?, bools_map p xs]
theorem ints_map {α : Type} (p : α → Int) : ∀ xs : List α, ints? (xs.map fun a => .int (p a)) = some (xs.map p)
  | [] => rfl
  | x :: xs => by simp [ints?, ints_map p xs]
def cxt (P : Prog) (k b : Nat) : Ctx := { call := callFn P k, con := fun i => P.con[i]?, base := b, fuel := P.fuel }
@[simp] theorem cxt_call (P : Prog) (k b : Nat) : (cxt P k b).call = callFn P k := by exact id rfl
@[simp] theorem cxt_base (P : Prog) (k b : Nat) : (cxt P k b).base = b := by exact id rfl
@[simp] theorem cxt_con (P : Prog) (k b i : Nat) : (cxt P k b).con i = P.con[i]? := by exact id rfl
theorem run_fn {P : Prog} {f k : Nat} {args : List Val} {S : Sto} {d : Def} (hd : P.fns[f]? = some d) (ha : args.length = d.arity) :
    callFn P (k + 1) f args S = finish S.length (execSs (cxt P k S.length) d.body (args.map some ++ List.replicate (d.size - d.arity) none) S) := by
  simp only [callFn, hd, ha, if_true]
  rfl
/-! ### the evaluator's steps, all but the comprehensions' -/
section
variable (c : Ctx) (env : Env) (S : Sto)
@[simp] theorem ev_var (i : Nat) : evalE c (.var i) env S = (match env[i]? with
    | some (some v) => .ok v S
    | _ => .bad) := by rw [evalE] <;> rfl
@[simp] theorem ev_lit (v : Val) : evalE c (.lit v) env S = .ok v S := by rw [evalE]
@[simp] theorem ev_con (i : Nat) : evalE c (.con i) env S = R.of (c.con i) S := by rw [evalE]
@[simp] theorem ev_bin (op : BOp) (a b : E) : evalE c (.bin op a b) env S = (evalE c a env S).bind fun x S1 => (evalE c b env S1).bind fun y S2 => R.of (QE.bin S2 op x y) S2 := by rw [evalE]
@[simp] theorem ev_neg (a : E) : evalE c (.neg a) env S = (evalE c a env S).bind fun x S1 => (asInt x S1).bind fun i S2 => .ok (.int (-i)) S2 := by rw [evalE]
@[simp] theorem ev_cmp (op : COp) (a b : E) : evalE c (.cmp op a b) env S = (evalE c a env S).bind fun x S1 => (evalE c b env S1).bind fun y S2 => (R.of (QE.cmp S2 op x y) S2).bind fun r S3 => .ok (.bl r) S3 := by rw [evalE]
@[simp] theorem ev_chain (o1 o2 : COp) (a b d : E) : evalE c (.chain o1 o2 a b d) env S = (evalE c a env S).bind fun x S1 => (evalE c b env S1).bind fun y S2 => (R.of (QE.cmp S2 o1 x y) S2).bind fun r S3 =>
      if r then (evalE c d env S3).bind fun z S4 => (R.of (QE.cmp S4 o2 y z) S4).bind fun r S5 => .ok (.bl r) S5 else .ok (.bl false) S3 := by rw [evalE]
@[simp] theorem ev_and (es : List E) : evalE c (.and es) env S = (evalAnd c es env S).bind fun b S1 => .ok (.bl b) S1 := by rw [evalE]
@[simp] theorem ev_or (es : List E) : evalE c (.or es) env S = (evalOr c es env S).bind fun b S1 => .ok (.bl b) S1 := by rw [evalE]
@[simp] theorem ev_not (a : E) : evalE c (.not a) env S = (evalE c a env S).bind fun x S1 => (asBl x S1).bind fun b S2 => .ok (.bl (!b)) S2 := by rw [evalE]
@[simp] theorem ev_ite (t a b : E) : evalE c (.ite t a b) env S = (evalE c t env S).bind fun x S1 => (asBl x S1).bind fun r S2 => if r then evalE c a env S2 else evalE c b env S2 := by rw [evalE]
@[simp] theorem ev_tup (es : List E) : evalE c (.tup es) env S = (evalEs c es env S).bind fun xs S1 => if xs.length ≤ lim then .ok (.tup xs) S1 else .bad := by rw [evalE]
@[simp] theorem ev_list (es : List E) : evalE c (.list es) env S = (evalEs c es env S).bind fun xs S1 => if xs.length ≤ lim then .ok (.lst true xs) S1 else .bad := by rw [evalE]
@[simp] theorem ev_dnew (t : Bool) : evalE c (.dnew t) env S = .ok (.dic true t []) S := by rw [evalE]
@[simp] theorem ev_idx (a i : E) : evalE c (.idx a i) env S = (evalE c a env S).bind fun x S1 => (evalE c i env S1).bind fun y S2 => R.of (item S2 x y) S2 := by rw [evalE]
@[simp] theorem ev_slice (a : E) (lo hi : Option E) : evalE c (.slice a lo hi) env S = (evalE c a env S).bind fun x S1 => (evalO c lo env S1).bind fun l S2 => (evalO c hi env S2).bind fun h S3 => R.of (QE.slice S3 x l h) S3 := by rw [evalE]
@[simp] theorem ev_call (f : Nat) (es : List E) : evalE c (.call f es) env S = (evalEs c es env S).bind fun xs S1 => c.call f xs S1 := by rw [evalE]
@[simp] theorem ev_bi (b : Bi) (es : List E) : evalE c (.bi b es) env S = (evalEs c es env S).bind fun xs S1 => R.of (callBi S1 b xs) S1 := by rw [evalE]
@[simp] theorem ev_isi (t : Ty) (a : E) : evalE c (.isi t a) env S = (evalE c a env S).bind fun x S1 => (R.of (isTy S1 t x) S1).bind fun r S2 => .ok (.bl r) S2 := by rw [evalE]
@[simp] theorem ev_meth (m : Me) (o a : E) : evalE c (.meth m o a) env S = (evalE c o env S).bind fun x S1 => (R.of (asList S1 x) S1).bind fun _ S1 => (evalE c a env S1).bind fun v S2 => R.of (callMe S2 m x [v.settle]) S2 := by rw [evalE]
@[simp] theorem ev_append (o a : E) : evalE c (.append o a) env S = (evalE c o env S).bind fun x S1 => (R.of (asList S1 x) S1).bind fun _ S1 => (evalE c a env S1).bind fun v S2 => QE.append c.base S2 x v.settle := by rw [evalE]
@[simp] theorem ev_cell (e : E) : evalE c (.cell e) env S = (evalE c e env S).bind fun v S1 => newCell S1 v := by rw [evalE]
@[simp] theorem es_nil : evalEs c [] env S = .ok [] S := by rw [evalEs]
@[simp] theorem es_cons (e : E) (es : List E) : evalEs c (e :: es) env S = (evalE c e env S).bind fun x S1 => (evalEs c es env S1).bind fun xs S2 => .ok (x.settle :: xs) S2 := by rw [evalEs]
@[simp] theorem eo_none : evalO c none env S = .ok none S := by rw [evalO]
@[simp] theorem eo_some (e : E) : evalO c (some e) env S = (evalE c e env S).bind fun x S1 => (asInt x S1).bind fun i S2 => .ok (some i) S2 := by rw [evalO]
@[simp] theorem ea_nil : evalAnd c [] env S = .ok true S := by rw [evalAnd]
@[simp] theorem ea_cons (e : E) (es : List E) : evalAnd c (e :: es) env S = (evalE c e env S).bind fun x S1 => (asBl x S1).bind fun b S2 => if b then evalAnd c es env S2 else .ok false S2 := by rw [evalAnd]
@[simp] theorem eor_nil : evalOr c [] env S = .ok false S := by rw [evalOr]
@[simp] theorem eor_cons (e : E) (es : List E) : evalOr c (e :: es) env S = (evalE c e env S).bind fun x S1 => (asBl x S1).bind fun b S2 => if b then .ok true S2 else evalOr c es env S2 := by rw [evalOr]
@[simp] theorem sr_it (e : E) : evalSrc c (.it e) env S = (evalE c e env S).bind fun v S1 => R.of (walkOf v) S1 := by rw [evalSrc]
@[simp] theorem sr_1 (a : E) : evalSrc c (.rng1 a) env S = (evalE c a env S).bind fun v S1 => (asInt v S1).bind fun i S2 => rangeOf S2 0 i := by rw [evalSrc]
@[simp] theorem sr_2 (a b : E) : evalSrc c (.rng2 a b) env S = (evalE c a env S).bind fun v S1 => (asInt v S1).bind fun i S2 => (evalE c b env S2).bind fun w S3 => (asInt w S3).bind fun j S4 => rangeOf S4 i j := by rw [evalSrc]
@[simp] theorem sr_enum (e : E) : evalSrc c (.enum e) env S = (evalE c e env S).bind fun v S1 => (R.of (seqOf v) S1).bind fun xs S2 => .ok (enumFrom 0 xs) S2 := by rw [evalSrc]
@[simp] theorem sr_zip (a b : E) : evalSrc c (.zip a b) env S = (evalE c a env S).bind fun v S1 => (evalE c b env S1).bind fun w S2 => (R.of (twoOf v w) S2).bind fun p S3 => .ok (zipV p.1 p.2) S3 := by rw [evalSrc]
@[simp] theorem xs_nil : execSs c [] env S = .ok (.nx, env) S := by rw [execSs]
@[simp] theorem xs_cons (s : Stm) (ss : List Stm) : execSs c (s :: ss) env S = (execS c s env S).bind fun f S1 => match f with
    | (.nx, e) => execSs c ss e S1
    | (f, e) => .ok (f, e) S1 := by rw [execSs] <;> rfl
@[simp] theorem x_asg (tg : T) (e : E) : execS c (.asg tg e) env S = (evalE c e env S).bind fun v S1 => (R.of (bindT tg v env) S1).bind fun env' S2 => .ok (.nx, env') S2 := by rw [execS]
@[simp] theorem x_setIx (o i e : E) : execS c (.setIx o i e) env S = (evalE c e env S).bind fun v S1 => (evalE c o env S1).bind fun x S2 => (evalE c i env S2).bind fun y S3 => (QE.setIx c.base S3 x y v).bind fun _ S4 => .ok (.nx, env) S4 := by rw [execS]
@[simp] theorem x_ext (i : Nat) (e : E) : execS c (.ext i e) env S = (match env[i]? with
    | some (some x) => (evalE c e env S).bind fun y S1 => (QE.extend c.base S1 x y).bind fun _ S2 => .ok (.nx, env) S2
    | _ => .bad) := by rw [execS] <;> rfl
@[simp] theorem x_expr (e : E) : execS c (.expr e) env S = (evalE c e env S).bind fun _ S1 => .ok (.nx, env) S1 := by rw [execS]
@[simp] theorem x_ret (e : E) : execS c (.ret e) env S = (evalE c e env S).bind fun v S1 => .ok (.rt v, env) S1 := by rw [execS]
@[simp] theorem x_if (t : E) (a b : List Stm) : execS c (.if_ t a b) env S = (evalE c t env S).bind fun x S1 => (asBl x S1).bind fun r S2 => if r then execSs c a env S2 else execSs c b env S2 := by rw [execS]
@[simp] theorem bl_ok (b : Bool) : asBl (.bl b) S = .ok b S := by exact id rfl
@[simp] theorem int_ok (b : Int) : asInt (.int b) S = .ok b S := by exact id rfl
@[simp] theorem set_int (i : Int) : (Val.int i).settle = .int i := by exact id rfl
@[simp] theorem set_bl (i : Bool) : (Val.bl i).settle = .bl i := by exact id rfl
@[simp] theorem set_str (i : List Nat) : (Val.str i).settle = .str i := by exact id rfl
@[simp] theorem set_non : Val.non.settle = .non := by exact id rfl
@[simp] theorem set_tup (i : List Val) : (Val.tup i).settle = .tup i := by exact id rfl
@[simp] theorem set_ref (i : Nat) : (Val.ref i).settle = .ref i := by exact id rfl
@[simp] theorem set_lst (f : Bool) (i : List Val) : (Val.lst f i).settle = .lst false i := by exact id rfl
@[simp] theorem set_dic (f t : Bool) (i : List (Val × Val)) : (Val.dic f t i).settle = .dic false t i := by exact id rfl
@[simp] theorem bind_name (i : Nat) (v : Val) : bindT (.name i) v env = some (env.set i (some v.settle)) := by rw [bindT]
@[simp] theorem bind_tup (ts : List T) (xs : List Val) : bindT (.tup ts) (.tup xs) env = bindTs ts xs env := by rw [bindT]
@[simp] theorem binds_nil : bindTs [] [] env = some env := by rw [bindTs]
@[simp] theorem binds_cons (t : T) (ts : List T) (x : Val) (xs : List Val) : bindTs (t :: ts) (x :: xs) env = (match bindT t x env with
    | some env' => bindTs ts xs env'
    | none => none) := by rw [bindTs] <;> rfl
@[simp] theorem fin_rt (v : Val) (e : Env) : finish S.length (.ok (.rt v, e) S) = .ok v S := by simp [finish]
@[simp] theorem fin_nx (e : Env) : finish S.length (.ok (.nx, e) S) = .ok .non S := by simp [finish]
variable {c env S}
theorem ev_comp {own : List Nat} {tg : T} {src : Src} {ifs : List E} {elt : E} {xs ys : List Val} {S1 S2 : Sto} (h1 : evalSrc c src env S = .ok xs S1) (h2 : compLoop tg (evalAnd c ifs) (evalE c elt) (wipe env own) xs S1 = .ok ys S2) (hl : ys.length ≤ lim) :
    evalE c (.comp own tg src ifs elt) env S = .ok (.lst true ys) S2 := by
  rw [evalE]
  simp [h1, h2, hl]
theorem ev_dcomp {own : List Nat} {tg : T} {src : Src} {t : Bool} {k v : E} {xs : List Val} {ys : List (Val × Val)} {S1 S2 : Sto} (h1 : evalSrc c src env S = .ok xs S1) (h2 : dcompLoop tg t (evalE c k) (evalE c v) (wipe env own) xs [] S1 = .ok ys S2) (hl : xs.length ≤ lim) :
    evalE c (.dcomp own tg src t k v) env S = .ok (.dic true t ys) S2 := by
  rw [evalE]
  simp [h1, h2, hl]
theorem x_for {tg : T} {src : Src} {body : List Stm} {xs : List Val} {S1 : Sto} {r : R (Fl × Env)} (h1 : evalSrc c src env S = .ok xs S1) (h2 : forLoop tg (execSs c body) xs env S1 = r) : execS c (.for_ tg src body) env S = r := by
  rw [execS]
  simp [h1, h2]
end
end QE

set_option linter.all false
set_option maxRecDepth 10000
namespace K01
open QE
@[simp] theorem c0 : prog.con[0]? = some (.int 8) := rfl
@[simp] theorem c1 : prog.con[1]? = some (.int 40) := rfl
@[simp] theorem c2 : prog.con[2]? = some (.int 40) := rfl
theorem w_int (k : Nat) (i : Int) (S : Sto) : callFn prog (k + 1) 0 [.int i] S = .ok (.bl true) S := by
  rw [run_fn (d := d_is_whole) rfl rfl]
  simp [d_is_whole, isTy, tyName]
theorem w_bl (k : Nat) (b : Bool) (S : Sto) : callFn prog (k + 1) 0 [.bl b] S = .ok (.bl false) S := by
  rw [run_fn (d := d_is_whole) rfl rfl]
  simp [d_is_whole, isTy, tyName]
theorem fw_int (k : Nat) (i a b : Int) (S : Sto) : callFn prog (k + 2) 1 [.int i, .int a, .int b] S = .ok (.bl (decide (a ≤ i) && decide (i ≤ b))) S := by
  rw [run_fn (d := d_fits_whole) rfl rfl]
  simp [d_fits_whole, QE.cmp, leVal, w_int]
  by_cases h : a ≤ i <;> simp [h]
theorem fw_bl (k : Nat) (i : Bool) (a b : Val) (S : Sto) : callFn prog (k + 2) 1 [.bl i, a, b] S = .ok (.bl false) S := by
  rw [run_fn (d := d_fits_whole) rfl rfl]
  simp [d_fits_whole, w_bl]
theorem tu_tup (k : Nat) (xs : List Val) (a b : Int) (S : Sto) : callFn prog (k + 1) 2 [.tup xs, .int a, .int b] S = .ok (.bl (decide (a ≤ xs.length) && decide ((xs.length : Int) ≤ b))) S := by
  rw [run_fn (d := d_is_tuple_of) rfl rfl]
  simp [d_is_tuple_of, QE.cmp, leVal, isTy, tyName, callBi, lenOf, asSeq]
  by_cases h : a ≤ (xs.length : Int) <;> simp [h]
/-- no tuple -/
def noT : Val → Bool
  | .non => true
  | .bl _ => true
  | .int _ => true
  | .str _ => true
  | .lst _ _ => true
  | _ => false
theorem tu_not (k : Nat) (v a b : Val) (S : Sto) (h : noT v = true) : callFn prog (k + 1) 2 [v, a, b] S = .ok (.bl false) S := by
  rw [run_fn (d := d_is_tuple_of) rfl rfl]
  cases v <;> simp only [noT] at h <;> first | (cases h; done) | simp [d_is_tuple_of, isTy, tyName, isNon]
/-! ### rising, gatherings, books -/
def adj {α : Type} (lt : α → α → Bool) (xs : List α) : Bool := (xs.zip (xs.drop 1)).all fun p => lt p.1 p.2
theorem zipV_map {α : Type} (e : α → Val) : ∀ xs ys : List α, zipV (xs.map e) (ys.map e) = (xs.zip ys).map fun p => .tup [e p.1, e p.2]
  | [], _ => by simp [zipV]
  | _ :: _, [] => by simp [zipV]
  | x :: xs, y :: ys => by simp [zipV, zipV_map e xs ys]
theorem cut_one {α : Type} (xs : List α) : cut xs (some 1) none = xs.drop 1 := by
  cases xs with
  | nil => rfl
  | cons x xs =>
    have h1 : clip (x :: xs).length 0 (some 1) = 1 := by simp [clip]
    simp only [cut, h1, clip]
    simp
theorem rising {α : Type} (k : Nat) (S : Sto) (xs : List α) (e : α → Val) (lt : α → α → Bool) (st : ∀ a, (e a).settle = e a) (h : ∀ a b, ltVal (e a) (e b) = some (lt a b)) (hl : xs.length ≤ lim) :
    callFn prog (k + 1) 3 [.tup (xs.map e)] S = .ok (.bl (adj lt xs)) S := by
  rw [run_fn (d := d_is_rising) rfl rfl]
  have hc := ev_comp (c := cxt prog k S.length) (own := [1, 2]) (tg := .tup [.name 1, .name 2]) (src := .zip (.var 0) (.slice (.var 0) (some (.lit (.int 1))) none)) (ifs := []) (elt := .cmp .lt (.var 1) (.var 2)) (env := [some (.tup (xs.map e)), none, none]) (S := S) (S1 := S) (S2 := S)
    (xs := (xs.zip (xs.drop 1)).map fun p => .tup [e p.1, e p.2]) (by simp only [sr_zip, ev_var, ev_slice, eo_some, eo_none, ev_lit, int_ok, R.bind_okS, List.getElem?_cons_zero, QE.slice, cut_one, R.of_some, twoOf, ← List.map_drop, zipV_map])
    (comp_all (fun p : α × α => .tup [e p.1, e p.2]) (fun p => .bl (lt p.1 p.2)) (xs.zip (xs.drop 1)) fun p _ => ⟨[some (.tup (xs.map e)), some (e p.1), some (e p.2)], by simp [wipe, st], by simp [QE.cmp, h]⟩)
    (by simp; omega)
  simp [d_is_rising, hc, callBi, boolsV, asList, bools_map, adj, -List.drop_one]
def iv (i : Int) : Val := .int i
@[simp] theorem iv_st (i : Int) : (iv i).settle = iv i := rfl
def ltI (a b : Int) : Bool := decide (a < b)
theorem risI (k : Nat) (S : Sto) (is : List Int) (hl : is.length ≤ lim) : callFn prog (k + 1) 3 [.tup (is.map iv)] S = .ok (.bl (adj ltI is)) S :=
  rising k S is iv ltI (fun _ => rfl) (fun _ _ => rfl) hl
theorem all_map {α : Type} (p : α → Bool) (xs : List α) : (xs.map p).all id = xs.all p := by simp [List.all_map]
/-- a gathering of whole numbers -/
def gOk (s : Int) (is : List Int) : Bool := (decide (1 ≤ s) && decide (s ≤ 8)) && ((decide (1 ≤ (is.length : Int)) && decide ((is.length : Int) ≤ 2 * s)) && (is.all (fun i => decide (1 ≤ i) && decide (i ≤ 2 * s)) && adj ltI is))
theorem sm2 : small 2 = true := by decide
theorem fgI (k : Nat) (S : Sto) (s : Int) (is : List Int) (hl : is.length ≤ lim) : callFn prog (k + 3) 4 [.tup [.int s, .tup (is.map iv)]] S = .ok (.bl (gOk s is)) S := by
  rw [run_fn (d := d_fits_gathering) rfl rfl]
  have hc := ev_comp (c := cxt prog (k + 2) S.length) (own := [1]) (tg := .name 1) (src := .it (.idx (.var 0) (.lit (.int 1)))) (ifs := []) (elt := .call 1 [.var 1, .lit (.int 1), .bin .mul (.lit (.int 2)) (.idx (.var 0) (.lit (.int 0)))]) (env := [some (.tup [.int s, .tup (is.map iv)]), none]) (S := S) (S1 := S) (S2 := S)
    (xs := is.map iv) (by simp [item, itemOf, atI, ixN, walkOf])
    (comp_all iv (fun i => .bl (decide (1 ≤ i) && decide (i ≤ 2 * s))) is fun i _ => ⟨[some (.tup [.int s, .tup (is.map iv)]), some (iv i)], by simp [wipe], by simp [item, itemOf, atI, ixN, QE.bin, mulV, sm2, iv, fw_int]⟩)
    (by simpa using hl)
  have h1 := risI (k + 1) S is hl
  have f0 := tu_tup (k + 1) [.int s, .tup (is.map iv)] 2 2 S
  have f1 := fw_int k s 1 8 S
  have f2 := tu_tup (k + 1) (is.map iv) 1 (2 * s) S
  rw [List.length_map] at f2
  unfold gOk
  generalize (decide (1 ≤ s) && decide (s ≤ 8)) = b1 at f1 ⊢
  generalize (decide (1 ≤ (is.length : Int)) && decide ((is.length : Int) ≤ 2 * s)) = b2 at f2 ⊢
  cases b1 <;> cases b2 <;> simp [d_fits_gathering, hc, f0, f1, f2, item, itemOf, atI, ixN, QE.bin, mulV, sm2, h1, callBi, boolsV, asList, bools_map, all_map]
  rw [Bool.eq_iff_iff]
  simp [List.all_eq_true]
theorem fg_not (k : Nat) (S : Sto) (v : Val) (h : noT v = true) : callFn prog (k + 3) 4 [v] S = .ok (.bl false) S := by
  rw [run_fn (d := d_fits_gathering) rfl rfl]
  have h1 := tu_not (k + 1) v.settle (.int 2) (.int 2) S (by cases v <;> simp [noT] at h <;> rfl)
  simp [d_fits_gathering, h1]
theorem fg_len (k : Nat) (S : Sto) (xs : List Val) (h : xs.length ≠ 2) : callFn prog (k + 3) 4 [.tup xs] S = .ok (.bl false) S := by
  rw [run_fn (d := d_fits_gathering) rfl rfl]
  have h1 := tu_tup (k + 1) xs 2 2 S
  have h2 : (decide ((2 : Int) ≤ xs.length) && decide ((xs.length : Int) ≤ 2)) = false := by
    simp only [Bool.and_eq_false_iff, decide_eq_false_iff_not]
    omega
  rw [h2] at h1
  simp [d_fits_gathering, h1]
theorem fg_bl (k : Nat) (S : Sto) (b : Bool) (v : Val) : callFn prog (k + 3) 4 [.tup [.bl b, v]] S = .ok (.bl false) S := by
  rw [run_fn (d := d_fits_gathering) rfl rfl]
  have f0 := tu_tup (k + 1) [.bl b, v] 2 2 S
  simp [d_fits_gathering, f0, fw_bl, item, itemOf, atI, ixN]
theorem fg_snd (k : Nat) (S : Sto) (s : Int) (v : Val) (h : noT v = true) (hv : v.settle = v) : callFn prog (k + 3) 4 [.tup [.int s, v]] S = .ok (.bl false) S := by
  rw [run_fn (d := d_fits_gathering) rfl rfl]
  have f0 := tu_tup (k + 1) [.int s, v] 2 2 S
  have f1 := fw_int k s 1 8 S
  have f2 := tu_not (k + 1) v (.int 1) (.int (2 * s)) S h
  generalize (decide (1 ≤ s) && decide (s ≤ 8)) = b1 at f1
  cases b1 <;> simp [d_fits_gathering, f0, f1, f2, item, itemOf, atI, ixN, QE.bin, mulV, sm2, hv]
theorem fg_one (k : Nat) (S : Sto) : callFn prog (k + 3) 4 [.tup [.int 1, .tup [.bl true]]] S = .ok (.bl false) S := by
  rw [run_fn (d := d_fits_gathering) rfl rfl]
  have f0 := tu_tup (k + 1) [.int 1, .tup [.bl true]] 2 2 S
  have f2 := tu_tup (k + 1) [.bl true] 1 2 S
  have hc := ev_comp (c := cxt prog (k + 2) S.length) (own := [1]) (tg := .name 1) (src := .it (.idx (.var 0) (.lit (.int 1)))) (ifs := []) (elt := .call 1 [.var 1, .lit (.int 1), .bin .mul (.lit (.int 2)) (.idx (.var 0) (.lit (.int 0)))]) (env := [some (.tup [.int 1, .tup [.bl true]]), none]) (S := S) (S1 := S) (S2 := S)
    (xs := [true].map .bl) (by simp [item, itemOf, atI, ixN, walkOf])
    (comp_all .bl (fun i => .bl false) [true] fun i _ => ⟨[some (.tup [.int 1, .tup [.bl true]]), some (.bl i)], by simp [wipe], by simp [item, itemOf, atI, ixN, QE.bin, mulV, sm2, fw_bl]⟩)
    (by simp [lim])
  simp [d_fits_gathering, hc, f0, f2, fw_int, item, itemOf, atI, ixN, QE.bin, mulV, sm2, callBi, boolsV, asList, bools?]
theorem fb {α : Type} (k : Nat) (S : Sto) (gs : List α) (e : α → Val) (r : α → Bool) (st : ∀ a, (e a).settle = e a) (h : ∀ a ∈ gs, callFn prog (k + 3) 4 [e a] S = .ok (.bl (r a)) S) (hl : gs.length ≤ lim) :
    callFn prog (k + 4) 5 [.tup (gs.map e)] S = .ok (.bl (decide (1 ≤ (gs.length : Int)) && decide ((gs.length : Int) ≤ 40) && gs.all r)) S := by
  rw [run_fn (d := d_fits_book) rfl rfl]
  have hc := ev_comp (c := cxt prog (k + 3) S.length) (own := [1]) (tg := .name 1) (src := .it (.var 0)) (ifs := []) (elt := .call 4 [.var 1]) (env := [some (.tup (gs.map e)), none]) (S := S) (S1 := S) (S2 := S)
    (xs := gs.map e) (by simp [walkOf])
    (comp_all e (fun a => .bl (r a)) gs fun a ha => ⟨[some (.tup (gs.map e)), some (e a)], by simp [wipe, st], by simp [st, h a ha]⟩)
    (by simpa using hl)
  have f0 := tu_tup (k + 2) (gs.map e) 1 40 S
  rw [List.length_map] at f0
  generalize (decide (1 ≤ (gs.length : Int)) && decide ((gs.length : Int) ≤ 40)) = b1 at f0 ⊢
  cases b1 <;> simp [d_fits_book, hc, f0, callBi, boolsV, asList, bools_map, all_map]
theorem fb_not (k : Nat) (S : Sto) (v : Val) (h : noT v = true) : callFn prog (k + 4) 5 [v] S = .ok (.bl false) S := by
  rw [run_fn (d := d_fits_book) rfl rfl]
  have h1 := tu_not (k + 2) v (.int 1) (.int 40) S h
  have h2 : v.settle = v.settle := rfl
  have h3 := tu_not (k + 2) v.settle (.int 1) (.int 40) S (by cases v <;> simp [noT] at h <;> rfl)
  simp [d_fits_book, h3]
theorem ib (k : Nat) (S : Sto) (v : Val) (b : Bool) (hv : v.settle = v) (h : callFn prog (k + 4) 5 [v] S = .ok (.bl b) S) : callFn prog (k + 5) 12 [v] S = .ok (.bl b) S := by
  rw [run_fn (d := d_is_book) rfl rfl]
  simp [d_is_book, hv, h]
theorem nb (k : Nat) (S : Sto) (v : Val) (hv : v.settle = v) (h : callFn prog (k + 4) 5 [v] S = .ok (.bl true) S) : callFn prog (k + 5) 6 [v] S = .ok .non S := by
  rw [run_fn (d := d_need_book) rfl rfl]
  simp [d_need_book, hv, h]
end K01

set_option linter.all false
set_option maxRecDepth 10000
namespace K01
open QE
/-! ### books -/
abbrev G := Nat × List Nat
def nv (n : Nat) : Val := .int n
@[simp] theorem nv_st (n : Nat) : (nv n).settle = nv n := rfl
def encG (g : G) : Val := .tup [nv g.1, .tup (g.2.map nv)]
def encB (b : List G) : Val := .tup (b.map encG)
def encP (p : Nat × Nat) : Val := .tup [nv p.1, nv p.2]
@[simp] theorem encG_st (g : G) : (encG g).settle = encG g := rfl
@[simp] theorem encB_st (b : List G) : (encB b).settle = encB b := rfl
@[simp] theorem encP_st (p : Nat × Nat) : (encP p).settle = encP p := rfl
structure VG (g : G) : Prop where
  lo : 1 ≤ g.1
  hi : g.1 ≤ 8
  ne : g.2 ≠ []
  sorted : g.2.Pairwise (· < ·)
  rng : ∀ p ∈ g.2, 1 ≤ p ∧ p ≤ 2 * g.1
structure VB (b : List G) : Prop where
  ne : 1 ≤ b.length
  few : b.length ≤ 5
  each : ∀ g ∈ b, VG g
theorem sorted_len {n : Nat} : ∀ {m : Nat} {l : List Nat}, l.Pairwise (· < ·) → (∀ p ∈ l, m < p ∧ p ≤ n) → l.length ≤ n - m
  | _, [], _, _ => by simp
  | m, x :: xs, h, k => by
    rw [List.pairwise_cons] at h
    have hx := k x (by simp)
    have := sorted_len (m := x) h.2 fun p hp => ⟨h.1 p hp, (k p (List.mem_cons_of_mem _ hp)).2⟩
    simp only [List.length_cons]
    omega
theorem VG.len {g : G} (h : VG g) : g.2.length ≤ 16 := by
  have := sorted_len (m := 0) h.sorted fun p hp => ⟨by have := (h.rng p hp).1; omega, (h.rng p hp).2⟩
  have := h.hi
  omega
theorem VG.len1 {g : G} (h : VG g) : g.2.length ≤ 2 * g.1 := by
  have := sorted_len (m := 0) h.sorted fun p hp => ⟨by have := (h.rng p hp).1; omega, (h.rng p hp).2⟩
  omega
theorem adj_sorted {α : Type} {lt : α → α → Bool} : ∀ {l : List α}, l.Pairwise (fun a b => lt a b = true) → adj lt l = true
  | [], _ => rfl
  | [_], _ => rfl
  | x :: y :: l, h => by
    rw [List.pairwise_cons] at h
    have ih := adj_sorted h.2
    unfold adj at ih ⊢
    simp only [List.drop_succ_cons, List.drop_zero, List.zip_cons_cons, List.all_cons, Bool.and_eq_true] at ih ⊢
    exact ⟨h.1 y (by simp), ih⟩
theorem ints_nv (l : List Nat) : l.map nv = (l.map fun n : Nat => (n : Int)).map iv := by
  rw [List.map_map]; rfl
theorem gOk_of {g : G} (h : VG g) : gOk g.1 (g.2.map fun n : Nat => (n : Int)) = true := by
  have h1 := h.lo; have h2 := h.hi; have h3 := h.len1
  have h4 : 1 ≤ g.2.length := by
    cases hg : g.2 with
    | nil => exact absurd hg h.ne
    | cons _ _ => simp
  unfold gOk
  simp only [Bool.and_eq_true, decide_eq_true_eq, List.length_map, List.all_eq_true, List.mem_map]
  refine ⟨⟨by omega, by omega⟩, ⟨by omega, by omega⟩, ?_, ?_⟩
  · rintro i ⟨n, hn, rfl⟩
    have := h.rng n hn
    omega
  · refine adj_sorted ?_
    rw [List.pairwise_map]
    exact h.sorted.imp fun hab => by simp only [ltI, decide_eq_true_eq]; omega
theorem fgV (k : Nat) (S : Sto) {g : G} (h : VG g) : callFn prog (k + 3) 4 [encG g] S = .ok (.bl true) S := by
  have := fgI k S g.1 (g.2.map fun n : Nat => (n : Int)) (by rw [List.length_map]; have := h.len; simp only [lim]; omega)
  rw [gOk_of h, ← ints_nv] at this
  exact this
theorem fbV (k : Nat) (S : Sto) {b : List G} (h : VB b) : callFn prog (k + 4) 5 [encB b] S = .ok (.bl true) S := by
  have := fb k S b encG (fun _ => true) (fun _ => rfl) (fun g hg => fgV k S (h.each g hg)) (by have := h.few; simp only [lim]; omega)
  rw [show (decide (1 ≤ (b.length : Int)) && decide ((b.length : Int) ≤ 40) && b.all fun _ => true) = true by
    have := h.few; have := h.ne
    simp only [Bool.and_eq_true, decide_eq_true_eq, List.all_eq_true, implies_true, and_true]
    omega] at this
  exact this
theorem nbV (k : Nat) (S : Sto) {b : List G} (h : VB b) : callFn prog (k + 5) 6 [encB b] S = .ok .non S := nb k S _ rfl (fbV k S h)
theorem ibV (k : Nat) (S : Sto) {b : List G} (h : VB b) : callFn prog (k + 5) 12 [encB b] S = .ok (.bl true) S := ib k S _ true rfl (fbV k S h)

/-! ### places -/
def plFrom : Nat → List G → List (Nat × Nat)
  | _, [] => []
  | i, g :: b => (g.2.map fun p => (i, p)) ++ plFrom (i + 1) b
def places (b : List G) : List (Nat × Nat) := plFrom 0 b
theorem plFrom_len {b : List G} (h : ∀ g ∈ b, VG g) : ∀ i, (plFrom i b).length ≤ 16 * b.length := by
  induction b with
  | nil => simp [plFrom]
  | cons g b ih =>
    intro i
    have h1 := (h g (by simp)).len
    have h2 := ih (fun g hg => h g (List.mem_cons_of_mem _ hg)) (i + 1)
    simp only [plFrom, List.length_append, List.length_map, List.length_cons]
    omega
theorem places_len {b : List G} (h : VB b) : (places b).length ≤ 80 := by
  have := plFrom_len h.each 0
  have := h.few
  unfold places
  omega
theorem set_last {α : Type} (S : List α) (x y : α) : (S ++ [x]).set S.length y = S ++ [y] := by simp
theorem lowL_P (n : Nat) : ∀ l : List (Nat × Nat), Val.lowL n (l.map encP) = true
  | [] => rfl
  | p :: l => by simp [Val.lowL, encP, Val.low, nv, lowL_P n l]
theorem fin_cell (S : Sto) (xs : List Val) (env : Env) (h : Val.lowL S.length xs = true) : finish S.length (.ok (.rt (.ref S.length), env) (S ++ [.lst xs])) = .ok (.lst true xs) S := by
  simp [finish, freeze, freeze1, h]
theorem pl_loop (k : Nat) (S : Sto) (B : Val) : ∀ (b : List G) (n : Nat) (acc : List Val) (x2 x3 x4 : Option Val), (∀ g ∈ b, VG g) → acc.length + 16 * b.length ≤ lim → ∃ y2 y3 y4,
    forLoop (.tup [.name 2, .tup [.name 3, .name 4]]) (execSs (cxt prog k S.length) [.ext 1 (.comp [5] (.name 5) (.it (.var 4)) [] (.tup [.var 2, .var 5]))]) (enumFrom n (b.map encG)) [some B, some (.ref S.length), x2, x3, x4, none] (S ++ [.lst acc])
      = .ok (.nx, [some B, some (.ref S.length), y2, y3, y4, none]) (S ++ [.lst (acc ++ (plFrom n b).map encP)])
  | [], n, acc, x2, x3, x4, _, _ => ⟨x2, x3, x4, by simp [enumFrom, forLoop, plFrom]⟩
  | g :: b, n, acc, x2, x3, x4, h, hl => by
    have hg := (h g (by simp)).len
    have hc := ev_comp (c := cxt prog k S.length) (own := [5]) (tg := .name 5) (src := .it (.var 4)) (ifs := []) (elt := .tup [.var 2, .var 5]) (env := [some B, some (.ref S.length), some (nv n), some (nv g.1), some (.tup (g.2.map nv)), none]) (S := S ++ [.lst acc]) (S1 := S ++ [.lst acc]) (S2 := S ++ [.lst acc])
      (xs := g.2.map nv) (by simp [walkOf])
      (comp_all nv (fun p => encP (n, p)) g.2 fun p _ => ⟨[some B, some (.ref S.length), some (nv n), some (nv g.1), some (.tup (g.2.map nv)), some (nv p)], by simp [wipe], by simp [encP, lim]⟩)
      (by simp [lim]; omega)
    simp only [List.length_cons] at hl
    obtain ⟨y2, y3, y4, ih⟩ := pl_loop k S B b (n + 1) (acc ++ (g.2.map fun p => encP (n, p))) (some (nv n)) (some (nv g.1)) (some (.tup (g.2.map nv))) (fun g hg => h g (List.mem_cons_of_mem _ hg)) (by simp; omega)
    refine ⟨y2, y3, y4, ?_⟩
    have hz : acc.length + g.2.length ≤ lim := by omega
    have hn : (.int (n : Int) : Val) = nv n := rfl
    simp only [List.map_cons, enumFrom, forLoop, encG, bind_tup, binds_cons, bind_name, binds_nil, hn]
    simp [hc, QE.extend, asList, hz, set_last]
    simp only [plFrom, List.map_append, List.map_map, Function.comp_def]
    simpa using ih
theorem pl (k : Nat) (S : Sto) {b : List G} (h : VB b) : callFn prog (k + 1) 8 [encB b] S = .ok (.lst true ((places b).map encP)) S := by
  rw [run_fn (d := d_places_in) rfl rfl]
  obtain ⟨y2, y3, y4, hf⟩ := pl_loop k S (encB b) b 0 [] none none none h.each (by have := h.few; simp [lim]; omega)
  have hx := x_for (c := cxt prog k S.length) (env := [some (encB b), some (.ref S.length), none, none, none, none]) (S := S ++ [.lst []]) (src := .enum (.var 0)) (xs := enumFrom 0 (b.map encG)) (S1 := S ++ [.lst []]) (by simp [encB, seqOf]) hf
  simp only [d_places_in, xs_cons, x_asg, ev_cell, ev_list, es_nil]
  simp [newCell, lim]
  rw [hx]
  simp
  exact fin_cell S _ _ (lowL_P _ _)
end K01

set_option linter.all false
set_option maxRecDepth 10000
namespace K01
open QE
def sh (b : List G) (i : Nat) : Nat := (b[i]?.getD (0, [])).1
def mt (b : List G) (q : Nat × Nat) : Nat × Nat := (q.1, 2 * sh b q.1 + 1 - q.2)
theorem mem_plFrom {q : Nat × Nat} : ∀ {b : List G} {n : Nat}, q ∈ plFrom n b ↔ ∃ j g, b[j]? = some g ∧ q.1 = n + j ∧ q.2 ∈ g.2
  | [], n => by simp [plFrom]
  | g :: b, n => by
    rw [plFrom, List.mem_append, mem_plFrom]
    constructor
    · rintro (h | ⟨j, g', h1, h2, h3⟩)
      · obtain ⟨p, hp, rfl⟩ := List.mem_map.mp h
        exact ⟨0, g, rfl, rfl, hp⟩
      · exact ⟨j + 1, g', by simpa using h1, by omega, h3⟩
    · rintro ⟨j, g', h1, h2, h3⟩
      cases j with
      | zero =>
        simp at h1
        subst h1
        exact .inl (List.mem_map.mpr ⟨q.2, h3, by ext <;> simp [h2]⟩)
      | succ j => exact .inr ⟨j, g', by simpa using h1, by omega, h3⟩
theorem mem_places {b : List G} {q : Nat × Nat} (h : q ∈ places b) : ∃ g, b[q.1]? = some g ∧ q.2 ∈ g.2 := by
  obtain ⟨j, g, h1, h2, h3⟩ := mem_plFrom.mp h
  rw [Nat.zero_add] at h2
  subst h2
  exact ⟨g, h1, h3⟩
theorem sh_of {b : List G} {i : Nat} {g : G} (h : b[i]? = some g) : sh b i = g.1 := by simp [sh, h]
theorem VB.get {b : List G} (h : VB b) {i : Nat} {g : G} (q : b[i]? = some g) : VG g := h.each g (List.mem_of_getElem? q)
/-- a place of the book, its sheets -/
theorem place_ok {b : List G} (h : VB b) {q : Nat × Nat} (hq : q ∈ places b) : ∃ g, b[q.1]? = some g ∧ VG g ∧ sh b q.1 = g.1 ∧ 1 ≤ q.2 ∧ q.2 ≤ 2 * g.1 := by
  obtain ⟨g, h1, h2⟩ := mem_places hq
  have := (h.get h1).rng _ h2
  exact ⟨g, h1, h.get h1, sh_of h1, this.1, this.2⟩
def plt (a b : Nat × Nat) : Prop := a.1 < b.1 ∨ (a.1 = b.1 ∧ a.2 < b.2)
theorem plFrom_sorted : ∀ {b : List G} {n : Nat}, (∀ g ∈ b, VG g) → (plFrom n b).Pairwise plt
  | [], _, _ => List.Pairwise.nil
  | g :: b, n, h => by
    rw [plFrom, List.pairwise_append]
    refine ⟨?_, plFrom_sorted fun g hg => h g (List.mem_cons_of_mem _ hg), fun x hx y hy => ?_⟩
    · rw [List.pairwise_map]
      exact (h g (by simp)).sorted.imp fun hab => .inr ⟨rfl, hab⟩
    · obtain ⟨p, _, rfl⟩ := List.mem_map.mp hx
      obtain ⟨j, g', h1, h2, h3⟩ := mem_plFrom.mp hy
      exact .inl (show n < y.1 by omega)
theorem places_sorted {b : List G} (h : VB b) : (places b).Pairwise plt := plFrom_sorted h.each
theorem places_nodup {b : List G} (h : VB b) : (places b).Nodup := (places_sorted h).imp fun hab z => by subst z; rcases hab with h | h <;> omega

/-! ### numbers of places -/
def numF : Nat → List (Nat × Nat) → List (Val × Val)
  | _, [] => []
  | n, p :: l => (encP p, nv n) :: numF (n + 1) l
theorem key_P (p q : Nat × Nat) : keyEq (encP p) (encP q) = decide (p = q) := by
  obtain ⟨a, b⟩ := p; obtain ⟨c, d⟩ := q
  simp only [encP, nv, keyEq, flatEqL, flatEq, Prod.mk.injEq, Bool.decide_and, Bool.and_true]
  congr 1 <;> (rw [Bool.eq_iff_iff]; simp; omega)
theorem dHas_num (q : Nat × Nat) : ∀ (n : Nat) (l : List (Nat × Nat)), dHas (encP q) (numF n l) = decide (q ∈ l)
  | _, [] => rfl
  | n, p :: l => by
    simp only [numF, dHas, key_P, dHas_num q (n + 1) l, List.mem_cons, Bool.decide_or]
    congr 1
    rw [Bool.eq_iff_iff]
    simp [eq_comm]
theorem dGet_num (q : Nat × Nat) : ∀ (n : Nat) (l : List (Nat × Nat)), dGet (encP q) (numF n l) = if q ∈ l then some (nv (n + l.idxOf q)) else none
  | _, [] => rfl
  | n, p :: l => by
    simp only [numF, dGet, key_P, dGet_num q (n + 1) l, List.mem_cons, List.idxOf_cons, decide_eq_true_eq]
    by_cases h : p = q
    · subst h; simp
    · have h2 : ¬ q = p := fun z => h z.symm
      have h3 : (p == q) = false := by simpa using h
      simp only [h, h2, h3, if_false, false_or, cond_false]
      split
      · rw [show n + 1 + List.idxOf q l = n + (List.idxOf q l + 1) by omega]
      · rfl
theorem num_app : ∀ (n : Nat) (l l' : List (Nat × Nat)), numF n (l ++ l') = numF n l ++ numF (n + l.length) l'
  | n, [], l' => by simp [numF]
  | n, p :: l, l' => by
    simp only [List.cons_append, numF, num_app (n + 1) l l', List.length_cons]
    rw [show n + 1 + l.length = n + (l.length + 1) by omega]
theorem dc_num (c : Ctx) (S : Sto) (B P : Val) (x3 x5 x7 : Option Val) : ∀ (l pre : List (Nat × Nat)), (pre ++ l).Nodup →
    dcompLoop (.tup [.name 4, .name 6]) true (evalE c (.var 6)) (evalE c (.var 4)) [some B, some P, none, x3, none, x5, none, x7] (enumFrom pre.length (l.map encP)) (numF 0 pre) S = .ok (numF 0 (pre ++ l)) S
  | [], pre, _ => by simp [enumFrom, dcompLoop]
  | p :: l, pre, h => by
    have hp : p ∉ pre := by
      rw [List.nodup_append] at h
      exact fun z => h.2.2 p z p (by simp) rfl
    have ih := dc_num c S B P x3 x5 x7 l (pre ++ [p]) (by simpa using h)
    simp only [List.map_cons, enumFrom, dcompLoop, bind_tup, binds_cons, bind_name, binds_nil]
    simp
    have hk : (encP p).isKey true = true := by simp [encP, Val.isKey, Val.flatKey, nv]
    have hd : dPut (encP p) (nv pre.length) (numF 0 pre) = numF 0 (pre ++ [p]) := by
      rw [num_app]
      simp [dPut, dHas_num, hp, numF]
    rw [hk]
    simp only [if_true]
    show dcompLoop _ _ _ _ _ _ (dPut (encP p) (nv pre.length) (numF 0 pre)) S = _
    rw [hd]
    simpa using ih
/-! ### pairs -/
def prFrom (b : List G) : Nat → List (Nat × Nat) → List (Nat × Nat)
  | _, [] => []
  | n, q :: l => (if mt b q ∈ places b ∧ n < (places b).idxOf (mt b q) then [(n, (places b).idxOf (mt b q))] else []) ++ prFrom b (n + 1) l
def pairs (b : List G) : List (Nat × Nat) := prFrom b 0 (places b)
theorem sheets_at {b : List G} (i : Nat) {g : G} (h : b[i]? = some g) (S : Sto) : item S (encB b) (nv i) = some (encG g) := by
  have hl := (List.getElem?_eq_some_iff.mp h).1
  have hq := (List.getElem?_eq_some_iff.mp h).2
  simp [encB, nv, item, itemOf, atI, ixN, hl, hq]
theorem sheet0 (g : G) (S : Sto) : item S (encG g) (.int 0) = some (nv g.1) := by simp [encG, item, itemOf, atI, ixN]
theorem sheet1 (g : G) (S : Sto) : item S (encG g) (.int 1) = some (.tup (g.2.map nv)) := by simp [encG, item, itemOf, atI, ixN]
theorem pr_loop (k : Nat) (S : Sto) {b : List G} (hb : VB b) : ∀ (l : List (Nat × Nat)) (n : Nat) (acc : List Val) (x4 x5 x6 x7 : Option Val), (∀ q ∈ l, q ∈ places b) → acc.length + l.length ≤ lim → ∃ y4 y5 y6 y7,
    forLoop (.tup [.name 4, .tup [.name 5, .name 6]]) (execSs (cxt prog k S.length) [.asg (.name 7) (.tup [.var 5, .bin .sub (.bin .add (.bin .mul (.lit (.int 2)) (.idx (.idx (.var 0) (.var 5)) (.lit (.int 0)))) (.lit (.int 1))) (.var 6)]),
        .if_ (.and [.cmp .in_ (.var 7) (.var 2), .cmp .gt (.idx (.var 2) (.var 7)) (.var 4)]) [.expr (.append (.var 3) (.tup [.var 4, .idx (.var 2) (.var 7)]))] []])
      (enumFrom n (l.map encP)) [some (encB b), some (.lst false ((places b).map encP)), some (.dic false true (numF 0 (places b))), some (.ref S.length), x4, x5, x6, x7] (S ++ [.lst acc])
      = .ok (.nx, [some (encB b), some (.lst false ((places b).map encP)), some (.dic false true (numF 0 (places b))), some (.ref S.length), y4, y5, y6, y7]) (S ++ [.lst (acc ++ (prFrom b n l).map encP)])
  | [], n, acc, x4, x5, x6, x7, _, _ => ⟨x4, x5, x6, x7, by simp [enumFrom, forLoop, prFrom]⟩
  | q :: l, n, acc, x4, x5, x6, x7, h, hl => by
    obtain ⟨g, hg, vg, hsh, hp1, hp2⟩ := place_ok hb (h q (by simp))
    simp only [List.length_cons] at hl
    have hm : mt b q = (q.1, 2 * g.1 + 1 - q.2) := by simp [mt, hsh]
    have hv : (Val.tup [nv q.1, .int (2 * (g.1 : Int) + 1 - (q.2 : Int))]) = encP (mt b q) := by
      rw [hm]
      simp only [encP, nv, Val.tup.injEq, List.cons.injEq, Val.int.injEq, and_true, true_and]
      omega
    have hk : (encP (mt b q)).isKey true = true := by simp [encP, Val.isKey, Val.flatKey, nv]
    obtain ⟨y4, y5, y6, y7, ih⟩ := pr_loop k S hb l (n + 1) (acc ++ (if mt b q ∈ places b ∧ n < (places b).idxOf (mt b q) then [(n, (places b).idxOf (mt b q))] else []).map encP) (some (nv n)) (some (nv q.1)) (some (nv q.2)) (some (encP (mt b q)))
      (fun q hq => h q (List.mem_cons_of_mem _ hq)) (by split <;> simp <;> omega)
    refine ⟨y4, y5, y6, y7, ?_⟩
    have hn : (.int (n : Int) : Val) = nv n := rfl
    have he : encP q = .tup [nv q.1, nv q.2] := rfl
    have hb2 : QE.bin (S ++ [.lst acc]) .mul (.int 2) (nv g.1) = some (.int (2 * g.1)) := by simp [QE.bin, mulV, nv, sm2]
    have hb3 : QE.bin (S ++ [.lst acc]) .add (.int (2 * g.1)) (.int 1) = some (.int (2 * g.1 + 1)) := rfl
    have hb4 : QE.bin (S ++ [.lst acc]) .sub (.int (2 * g.1 + 1)) (nv q.2) = some (.int (2 * (g.1 : Int) + 1 - (q.2 : Int))) := rfl
    have hin : QE.cmp (S ++ [.lst acc]) .in_ (encP (mt b q)) (.dic false true (numF 0 (places b))) = some (decide (mt b q ∈ places b)) := by
      simp only [QE.cmp, isIn, asList, asDic, hasDic, hk, if_true, dGet_num]
      split <;> simp_all
    simp only [List.map_cons, enumFrom, forLoop, he, bind_tup, binds_cons, bind_name, binds_nil, hn]
    by_cases hmem : mt b q ∈ places b
    · have hit : item (S ++ [.lst acc]) (.dic false true (numF 0 (places b))) (encP (mt b q)) = some (nv ((places b).idxOf (mt b q))) := by
        simp [item, asList, asDic, itemDic, hk, dGet_num, hmem]
      have hgt : QE.cmp (S ++ [.lst acc]) .gt (nv ((places b).idxOf (mt b q))) (nv n) = some (decide (n < (places b).idxOf (mt b q))) := by
        simp [QE.cmp, gtVal, nv]
      by_cases hlt : n < (places b).idxOf (mt b q)
      · simp [hmem, hlt] at ih
        have hz : acc.length < 16777216 := by have : acc.length < lim := by omega
                                              exact this
        simp [sheets_at q.1 hg, sheet0, hb2, hb3, hb4, hv, lim, hin, hmem, hit, hgt, hlt, asList, QE.append, mayPut, prFrom, hz]
        exact ih
      · simp [hmem, hlt] at ih
        simp [sheets_at q.1 hg, sheet0, hb2, hb3, hb4, hv, lim, hin, hmem, hit, hgt, hlt, prFrom]
        simpa using ih
    · simp [hmem] at ih
      simp [sheets_at q.1 hg, sheet0, hb2, hb3, hb4, hv, lim, hin, hmem, prFrom]
      simpa using ih
theorem prFrom_len (b : List G) : ∀ (l : List (Nat × Nat)) (n : Nat), (prFrom b n l).length ≤ l.length
  | [], _ => by simp [prFrom]
  | q :: l, n => by
    have := prFrom_len b l (n + 1)
    simp only [prFrom, List.length_append, List.length_cons]
    split <;> simp <;> omega
theorem pairs_len {b : List G} (h : VB b) : (pairs b).length ≤ 80 := Nat.le_trans (prFrom_len b _ 0) (places_len h)
theorem pr (k : Nat) (S : Sto) {b : List G} (h : VB b) : callFn prog (k + 2) 9 [encB b] S = .ok (.lst true ((pairs b).map encP)) S := by
  rw [run_fn (d := d_pairs_in) rfl rfl]
  have hl := places_len h
  have hd := ev_dcomp (c := cxt prog (k + 1) S.length) (own := [4, 6]) (tg := .tup [.name 4, .name 6]) (src := .enum (.var 1)) (t := true) (k := .var 6) (v := .var 4) (env := [some (encB b), some (.lst false ((places b).map encP)), none, none, none, none, none, none]) (S := S) (S1 := S) (S2 := S)
    (xs := enumFrom 0 ((places b).map encP)) (by simp [seqOf]) (dc_num _ S (encB b) _ none none none (places b) [] (by simpa using places_nodup h)) (by
      have : ∀ (n : Nat) (l : List Val), (enumFrom n l).length = l.length := by
        intro n l
        induction l generalizing n with
        | nil => rfl
        | cons x l ih => simp [enumFrom, ih]
      rw [this, List.length_map]
      simp only [lim]
      omega)
  obtain ⟨y4, y5, y6, y7, hf⟩ := pr_loop (k + 1) S h (places b) 0 [] none none none none (fun q hq => hq) (by simp [lim]; omega)
  have hx := x_for (c := cxt prog (k + 1) S.length) (env := [some (encB b), some (.lst false ((places b).map encP)), some (.dic false true (numF 0 (places b))), some (.ref S.length), none, none, none, none]) (S := S ++ [.lst []]) (src := .enum (.var 1)) (xs := enumFrom 0 ((places b).map encP)) (S1 := S ++ [.lst []]) (by simp [seqOf]) hf
  simp only [d_pairs_in, xs_cons, x_asg, ev_cell, ev_list, es_nil]
  simp [pl k S h, hd, newCell, lim]
  rw [hx]
  simp
  exact fin_cell S _ _ (lowL_P _ _)
end K01

set_option linter.all false
set_option maxRecDepth 10000
namespace K01
open QE
theorem len_lim {α : Type} {l : List α} (h : l.length ≤ 80) : l.length ≤ lim := by simp only [lim]; omega
theorem encP_eq (p : Nat × Nat) : encP p = .tup [nv p.1, nv p.2] := rfl
theorem int_nv (n : Nat) : (.int (n : Int) : Val) = nv n := rfl
theorem range_nv (n : Nat) : rangeV 0 n = (List.range n).map nv := by
  rw [rangeV_map]
  apply List.map_congr_left
  intro i _
  simp [nv]
theorem rng_ok (S : Sto) (n : Nat) (h : n ≤ 1000) : rangeOf S 0 (n : Int) = .ok ((List.range n).map nv) S := by
  unfold rangeOf
  rw [if_pos (by omega), ← range_nv]
  simp
/-! ### lone leaves -/
def jn (b : List G) : List Nat := (pairs b).flatMap fun p => [p.1, p.2]
theorem jn_loop (k : Nat) (S : Sto) (B : Val) : ∀ (l : List (Nat × Nat)) (acc : List Nat) (x2 x3 : Option Val), acc.length + 2 * l.length ≤ lim → ∃ y2 y3,
    forLoop (.tup [.name 2, .name 3]) (execSs (cxt prog k S.length) [.ext 1 (.list [.var 2, .var 3])]) (l.map encP) [some B, some (.ref S.length), x2, x3, none] (S ++ [.lst (acc.map nv)])
      = .ok (.nx, [some B, some (.ref S.length), y2, y3, none]) (S ++ [.lst ((acc ++ l.flatMap fun p => [p.1, p.2]).map nv)])
  | [], acc, x2, x3, _ => ⟨x2, x3, by simp [forLoop]⟩
  | p :: l, acc, x2, x3, h => by
    simp only [List.length_cons] at h
    obtain ⟨y2, y3, ih⟩ := jn_loop k S B l (acc ++ [p.1, p.2]) (some (nv p.1)) (some (nv p.2)) (by simp; omega)
    refine ⟨y2, y3, ?_⟩
    have hz : acc.length + 2 ≤ 16777216 := by
      have : acc.length + 2 ≤ lim := by omega
      exact this
    simp only [List.map_cons, forLoop, encP_eq, bind_tup, binds_cons, bind_name, binds_nil]
    simp [lim, QE.extend, asList, hz]
    simpa [encP_eq] using ih
theorem any_nv (i : Nat) : ∀ l : List Nat, ((l.map nv).any fun y => y.eqv (nv i)) = decide (i ∈ l)
  | [] => rfl
  | n :: l => by
    simp only [List.map_cons, List.any_cons, any_nv i l, List.mem_cons, Bool.decide_or]
    congr 1
    rw [Bool.eq_iff_iff]
    simp [nv, Val.eqv]
    omega
theorem any_nv' (i : Nat) (l : List Nat) : l.any ((fun y => y.eqv (nv i)) ∘ nv) = decide (i ∈ l) := by rw [← List.any_map]; exact any_nv i l
theorem chk_nv (d : Nat) : ∀ l : List Nat, Val.chkL d (l.map nv) = true
  | [] => by cases d <;> rfl
  | n :: l => by
    have := chk_nv d l
    cases d <;> simp [Val.chkL, Val.chk, nv, this] <;> exact this
theorem lowL_nv (b : Nat) : ∀ l : List Nat, Val.lowL b (l.map nv) = true
  | [] => rfl
  | n :: l => by simp [Val.lowL, Val.low, nv, lowL_nv b l]
def lones (b : List G) : List Nat := (List.range (places b).length).filter fun i => !decide (i ∈ jn b)
theorem ln (k : Nat) (S : Sto) {b : List G} (h : VB b) : callFn prog (k + 3) 10 [encB b] S = .ok (.lst true ((lones b).map nv)) S := by
  rw [run_fn (d := d_lone_in) rfl rfl]
  have hl := places_len h
  have hl2 := pairs_len h
  obtain ⟨y2, y3, hf⟩ := jn_loop (k + 2) S (encB b) (pairs b) [] none none (by simp [lim]; omega)
  have hx := x_for (c := cxt prog (k + 2) S.length) (env := [some (encB b), some (.ref S.length), none, none, none]) (S := S ++ [.lst []]) (src := .it (.call 9 [.var 0])) (xs := (pairs b).map encP) (S1 := S ++ [.lst []]) (by simp [pr k _ h, walkOf]) (by simpa using hf)
  have hc := ev_comp (c := cxt prog (k + 2) S.length) (own := [4]) (tg := .name 4) (src := .rng1 (.bi .len [.call 8 [.var 0]])) (ifs := [.cmp .nin (.var 4) (.var 1)]) (elt := .var 4) (env := [some (encB b), some (.ref S.length), y2, y3, none]) (S := S ++ [.lst ((jn b).map nv)]) (S1 := S ++ [.lst ((jn b).map nv)]) (S2 := S ++ [.lst ((jn b).map nv)])
    (xs := (List.range (places b).length).map nv) (by
      simp [pl (k + 1) _ h, callBi, lenOf, asSeq, asList]
      exact rng_ok _ _ (by omega))
    (comp_run nv (fun i => !decide (i ∈ jn b)) nv _ fun i _ => ⟨[some (encB b), some (.ref S.length), y2, y3, some (nv i)], by simp [wipe], by
      simp [QE.cmp, isIn, asList, anyEq, chk_nv, any_nv', nt, show (nv i).chk 64 = true from rfl]
      , fun _ => by simp⟩)
    (by
      rw [List.length_map]
      exact Nat.le_trans (List.length_filter_le _ _) (by rw [List.length_range]; exact len_lim hl))
  simp only [d_lone_in, xs_cons, x_asg, ev_cell, ev_list, es_nil]
  simp [newCell, lim]
  rw [hx]
  have hj : (pairs b).flatMap (fun p => [p.1, p.2]) = jn b := rfl
  simp [hj, hc]
  simp [finish, freeze, freeze1, Val.low, lowL_nv, lones]
/-! ### places, marks, leaves -/
theorem nl (k : Nat) (S : Sto) {b : List G} (h : VB b) (i : Nat) (hi : i < (places b).length) : callFn prog (k + 3) 7 [encB b, nv i] S = .ok .non S := by
  rw [run_fn (d := d_need_leaf) rfl rfl]
  have f1 := fw_int k i 0 ((places b).length - 1) S
  rw [show (decide ((0 : Int) ≤ (i : Int)) && decide ((i : Int) ≤ ((places b).length : Int) - 1)) = true by simp; omega] at f1
  simp [d_need_leaf, pl (k + 1) S h, callBi, lenOf, asSeq, asList, QE.bin, subV, nv, f1]
theorem lm (k : Nat) (S : Sto) {b : List G} (h : VB b) : callFn prog (k + 6) 13 [encB b] S = .ok (nv (places b).length) S := by
  rw [run_fn (d := d_leaves_many) rfl rfl]
  simp [d_leaves_many, nbV k S h, pl (k + 4) S h, callBi, lenOf, asSeq, asList, nv]
theorem mk (k : Nat) (S : Sto) {b : List G} (h : VB b) : callFn prog (k + 6) 17 [encB b] S = .ok (.tup [.tup ((pairs b).map encP), .tup ((lones b).map nv)]) S := by
  rw [run_fn (d := d_marks_of) rfl rfl]
  simp [d_marks_of, nbV k S h, pr (k + 3) S h, ln (k + 2) S h, callBi, tupleOf, asSeq, asList, lim]
theorem place_at {b : List G} (i : Nat) (S : Sto) (f : Bool) {q : Nat × Nat} (h : (places b)[i]? = some q) : item S (.lst f ((places b).map encP)) (nv i) = some (encP q) := by
  have hl := (List.getElem?_eq_some_iff.mp h).1
  have hq := (List.getElem?_eq_some_iff.mp h).2
  simp [nv, item, asList, itemOf, atI, ixN, hl, hq]
theorem po (k : Nat) (S : Sto) {b : List G} (h : VB b) (i : Nat) {q : Nat × Nat} (hq : (places b)[i]? = some q) : callFn prog (k + 6) 15 [encB b, nv i] S = .ok (encP q) S := by
  have hi := (List.getElem?_eq_some_iff.mp hq).1
  rw [run_fn (d := d_place_of) rfl rfl]
  simp [d_place_of, nbV k S h, nl (k + 2) S h i hi, pl (k + 4) S h, place_at i S true hq]
/-! ### sides -/
def sH : Val := .str [104]
def sF : Val := .str [102]
def encS (n : Nat) : Val := .tup [if n % 2 = 1 then sH else sF, if n % 2 = 1 then sF else sH]
theorem so (k : Nat) (S : Sto) {b : List G} (h : VB b) (i : Nat) {q : Nat × Nat} (hq : (places b)[i]? = some q) : callFn prog (k + 6) 18 [encB b, nv i] S = .ok (encS q.2) S := by
  have hi := (List.getElem?_eq_some_iff.mp hq).1
  obtain ⟨g, hg, vg, hsh, hp1, hp2⟩ := place_ok h (List.mem_of_getElem? hq)
  rw [run_fn (d := d_sides_of) rfl rfl]
  have hb2 : QE.bin S .mul (.int 2) (nv g.1) = some (.int (2 * g.1)) := by simp [QE.bin, mulV, nv, sm2]
  have hb3 : QE.bin S .add (.int (2 * g.1)) (.int 1) = some (.int (2 * g.1 + 1)) := rfl
  have hb4 : QE.bin S .sub (.int (2 * g.1 + 1)) (nv q.2) = some (.int (2 * (g.1 : Int) + 1 - (q.2 : Int))) := rfl
  have hmin : callBi S .min2 [nv q.2, .int (2 * (g.1 : Int) + 1 - (q.2 : Int))] = some (nv (if q.2 ≤ g.1 then q.2 else 2 * g.1 + 1 - q.2)) := by
    simp only [callBi, nv, Option.some.injEq, Val.int.injEq]
    split <;> split <;> omega
  generalize hn : (if q.2 ≤ g.1 then q.2 else 2 * g.1 + 1 - q.2) = n at hmin
  have hmod : QE.bin S .mod (nv n) (.int 2) = some (nv (n % 2)) := by
    simp only [QE.bin, modV, nv]
    rw [if_pos (by omega)]
    congr 2
    rw [Int.fmod_eq_emod_of_nonneg _ (by omega)]
    omega
  have he1 : QE.cmp S .eq (nv (n % 2)) (.int 1) = some (decide (n % 2 = 1)) := by
    simp only [QE.cmp, eqVal, res, nv]
    simp [Val.chk, Val.eqv]
    rw [Bool.eq_iff_iff]
    simp
    omega
  have he2 : QE.cmp S .eq (nv q.2) (nv n) = some (decide (q.2 = n)) := by
    simp only [QE.cmp, eqVal, res, nv]
    simp [Val.chk, Val.eqv]
    rw [Bool.eq_iff_iff]
    simp
    omega
  have hpar : ¬ q.2 = n → (q.2 % 2 = 1 ↔ ¬ n % 2 = 1) := fun z => by
    split at hn <;> omega
  have hpar2 : q.2 = n → (q.2 % 2 = 1 ↔ n % 2 = 1) := fun z => by rw [z]
  simp only [d_sides_of, xs_cons, x_expr, x_asg]
  by_cases c1 : n % 2 = 1 <;> by_cases c2 : q.2 = n
  · have c3 := (hpar2 c2).mpr c1
    have hv1 : QE.cmp S .eq (nv (n % 2)) (.int 1) = some true := by rw [he1, decide_eq_true c1]
    have hv2 : QE.cmp S .eq (nv q.2) (nv n) = some true := by rw [he2, decide_eq_true c2]
    simp [nbV k S h, nl (k + 2) S h i hi, pl (k + 4) S h, place_at i S true hq, encP_eq, sheets_at q.1 hg, sheet0, hb2, hb3, hb4, hmin, hmod, hv1, hv2, lim, encS, sH, sF, c3]
  · have c3 : ¬ q.2 % 2 = 1 := fun z => (hpar c2).mp z c1
    have hv1 : QE.cmp S .eq (nv (n % 2)) (.int 1) = some true := by rw [he1, decide_eq_true c1]
    have hv2 : QE.cmp S .eq (nv q.2) (nv n) = some false := by rw [he2, decide_eq_false c2]
    simp [nbV k S h, nl (k + 2) S h i hi, pl (k + 4) S h, place_at i S true hq, encP_eq, sheets_at q.1 hg, sheet0, hb2, hb3, hb4, hmin, hmod, hv1, hv2, lim, encS, sH, sF, c3]
  · have c3 : ¬ q.2 % 2 = 1 := fun z => c1 ((hpar2 c2).mp z)
    have hv1 : QE.cmp S .eq (nv (n % 2)) (.int 1) = some false := by rw [he1, decide_eq_false c1]
    have hv2 : QE.cmp S .eq (nv q.2) (nv n) = some true := by rw [he2, decide_eq_true c2]
    simp [nbV k S h, nl (k + 2) S h i hi, pl (k + 4) S h, place_at i S true hq, encP_eq, sheets_at q.1 hg, sheet0, hb2, hb3, hb4, hmin, hmod, hv1, hv2, lim, encS, sH, sF, c3]
  · have c3 := (hpar c2).mpr c1
    have hv1 : QE.cmp S .eq (nv (n % 2)) (.int 1) = some false := by rw [he1, decide_eq_false c1]
    have hv2 : QE.cmp S .eq (nv q.2) (nv n) = some false := by rw [he2, decide_eq_false c2]
    simp [nbV k S h, nl (k + 2) S h i hi, pl (k + 4) S h, place_at i S true hq, encP_eq, sheets_at q.1 hg, sheet0, hb2, hb3, hb4, hmin, hmod, hv1, hv2, lim, encS, sH, sF, c3]
end K01

set_option linter.all false
set_option maxRecDepth 10000
namespace K01
open QE
/-! ### the mathematics of mates -/
def pq (b : List G) (i : Nat) : Nat × Nat := (places b)[i]?.getD (0, 0)
theorem pq_of {b : List G} {i : Nat} {q : Nat × Nat} (h : (places b)[i]? = some q) : pq b i = q := by simp [pq, h]
theorem pq_get {b : List G} {i : Nat} (h : i < (places b).length) : (places b)[i]? = some (pq b i) := by simp [pq, h]
theorem pq_mem {b : List G} {i : Nat} (h : i < (places b).length) : pq b i ∈ places b := List.mem_of_getElem? (pq_get h)
theorem mt_mt {b : List G} (h : VB b) {q : Nat × Nat} (hq : q ∈ places b) : mt b (mt b q) = q := by
  obtain ⟨g, hg, vg, hsh, h1, h2⟩ := place_ok h hq
  obtain ⟨x, y⟩ := q
  simp only [mt, Prod.mk.injEq, true_and] at *
  rw [hsh]
  omega
theorem mt_ne {b : List G} (h : VB b) {q : Nat × Nat} (hq : q ∈ places b) : mt b q ≠ q := by
  obtain ⟨g, hg, vg, hsh, h1, h2⟩ := place_ok h hq
  intro z
  have : 2 * sh b q.1 + 1 - q.2 = q.2 := congrArg Prod.snd z
  rw [hsh] at this
  omega
def ix (b : List G) (q : Nat × Nat) : Nat := (places b).idxOf q
theorem ix_lt {b : List G} {q : Nat × Nat} (h : q ∈ places b) : ix b q < (places b).length := List.idxOf_lt_length_of_mem h
theorem pq_ix {b : List G} {q : Nat × Nat} (h : q ∈ places b) : pq b (ix b q) = q := by
  have := ix_lt h
  rw [pq, List.getElem?_eq_getElem this]
  simp [ix]
theorem ix_pq {b : List G} (h : VB b) {i : Nat} (hi : i < (places b).length) : ix b (pq b i) = i := by
  have nd := places_nodup h
  have hj := ix_lt (pq_mem hi)
  have e := pq_ix (pq_mem hi)
  have g1 := pq_get hi
  have g2 := pq_get hj
  rw [e] at g2
  exact (List.getElem?_inj hj nd).mp (g2.trans g1.symm)
theorem pq_inj {b : List G} (h : VB b) {i j : Nat} (hi : i < (places b).length) (hj : j < (places b).length) (e : pq b i = pq b j) : i = j := by
  rw [← ix_pq h hi, ← ix_pq h hj, e]
/-- the mate's number -/
def mi (b : List G) (i : Nat) : Nat := ix b (mt b (pq b i))
def has (b : List G) (i : Nat) : Prop := mt b (pq b i) ∈ places b
instance (b : List G) (i : Nat) : Decidable (has b i) := inferInstanceAs (Decidable (_ ∈ _))
theorem mi_lt {b : List G} {i : Nat} (hm : has b i) : mi b i < (places b).length := ix_lt hm
theorem pq_mi {b : List G} {i : Nat} (hm : has b i) : pq b (mi b i) = mt b (pq b i) := pq_ix hm
theorem has_mi {b : List G} (h : VB b) {i : Nat} (hi : i < (places b).length) (hm : has b i) : has b (mi b i) := by
  unfold has
  rw [pq_mi hm, mt_mt h (pq_mem hi)]
  exact pq_mem hi
theorem mi_mi {b : List G} (h : VB b) {i : Nat} (hi : i < (places b).length) (hm : has b i) : mi b (mi b i) = i := by
  unfold mi
  rw [show ix b (mt b (pq b i)) = mi b i from rfl, pq_mi hm, mt_mt h (pq_mem hi), ix_pq h hi]
theorem mi_ne {b : List G} (h : VB b) {i : Nat} (hi : i < (places b).length) (hm : has b i) : mi b i ≠ i := by
  intro z
  have := pq_mi hm
  rw [z] at this
  exact mt_ne h (pq_mem hi) this.symm
theorem prFrom_eq {b : List G} (h : VB b) : ∀ (l : List (Nat × Nat)) (n : Nat), (∀ i q, l[i]? = some q → (places b)[n + i]? = some q) → prFrom b n l = ((List.range l.length).map (n + ·)).filterMap fun i => if has b i ∧ i < mi b i then some (i, mi b i) else none
  | [], n, _ => by simp [prFrom]
  | q :: l, n, hl => by
    have h0 := pq_of (hl 0 q rfl)
    rw [Nat.add_zero] at h0
    have ih := prFrom_eq h l (n + 1) fun i q' hq => by
      have := hl (i + 1) q' (by simpa using hq)
      rwa [show n + (i + 1) = n + 1 + i by omega] at this
    have hr : (List.range (q :: l).length).map (n + ·) = n :: (List.range l.length).map (n + 1 + ·) := by
      rw [List.length_cons, List.range_succ_eq_map, List.map_cons, List.map_map, Nat.add_zero]
      congr 1
      apply List.map_congr_left
      intro i _
      simp only [Function.comp_apply]
      omega
    rw [hr, prFrom, ih, List.filterMap_cons]
    have e1 : mt b q ∈ places b ↔ has b n := by unfold has; rw [h0]
    have e2 : (places b).idxOf (mt b q) = mi b n := by unfold mi ix; rw [h0]
    simp only [e1, e2]
    by_cases hc : has b n ∧ n < mi b n
    · simp [hc]
    · simp [hc]
theorem pairs_eq {b : List G} (h : VB b) : pairs b = (List.range (places b).length).filterMap fun i => if has b i ∧ i < mi b i then some (i, mi b i) else none := by
  have := prFrom_eq h (places b) 0 (fun i q hq => by simpa using hq)
  simpa [pairs] using this
theorem mem_pairs {b : List G} (h : VB b) {p : Nat × Nat} : p ∈ pairs b ↔ p.1 < (places b).length ∧ has b p.1 ∧ p.1 < mi b p.1 ∧ p.2 = mi b p.1 := by
  rw [pairs_eq h, List.mem_filterMap]
  constructor
  · rintro ⟨i, hi, q⟩
    split at q
    · rename_i hc
      cases q
      exact ⟨List.mem_range.mp hi, hc.1, hc.2, rfl⟩
    · cases q
  · rintro ⟨h1, h2, h3, h4⟩
    refine ⟨p.1, List.mem_range.mpr h1, ?_⟩
    rw [if_pos ⟨h2, h3⟩, ← h4]
theorem mem_jn {b : List G} (h : VB b) {i : Nat} (hi : i < (places b).length) : i ∈ jn b ↔ has b i := by
  unfold jn
  rw [List.mem_flatMap]
  constructor
  · rintro ⟨p, hp, hm⟩
    obtain ⟨h1, h2, h3, h4⟩ := (mem_pairs h).mp hp
    simp at hm
    rcases hm with rfl | rfl
    · exact h2
    · rw [h4]; exact has_mi h h1 h2
  · intro hm
    have hne := mi_ne h hi hm
    by_cases hlt : i < mi b i
    · exact ⟨(i, mi b i), (mem_pairs h).mpr ⟨hi, hm, hlt, rfl⟩, by simp⟩
    · refine ⟨(mi b i, i), (mem_pairs h).mpr ⟨mi_lt hm, has_mi h hi hm, ?_, ?_⟩, by simp⟩
      · show mi b i < mi b (mi b i)
        rw [mi_mi h hi hm]; omega
      · show i = mi b (mi b i)
        rw [mi_mi h hi hm]
theorem lones_eq {b : List G} (h : VB b) : lones b = (List.range (places b).length).filter fun i => decide (¬ has b i) := by
  unfold lones
  apply List.filter_congr
  intro i hi
  have := mem_jn h (List.mem_range.mp hi)
  rw [Bool.eq_iff_iff]
  simp [this]
theorem jn_lt {b : List G} (h : VB b) {i : Nat} (hi : i ∈ jn b) : i < (places b).length := by
  unfold jn at hi
  obtain ⟨p, hp, hm⟩ := List.mem_flatMap.mp hi
  obtain ⟨h1, h2, h3, h4⟩ := (mem_pairs h).mp hp
  simp at hm
  rcases hm with rfl | rfl
  · exact h1
  · rw [h4]; exact mi_lt h2
theorem pairs_sorted {b : List G} (h : VB b) : (pairs b).Pairwise (fun p p' => p.1 < p'.1) := by
  rw [pairs_eq h, List.pairwise_filterMap]
  refine List.Pairwise.imp ?_ (List.pairwise_lt_range)
  intro i j hij p hp p' hp'
  split at hp <;> cases hp
  split at hp' <;> cases hp'
  exact hij
theorem jn_nodup {b : List G} (h : VB b) : (jn b).Nodup := by
  unfold jn List.Nodup
  rw [List.pairwise_flatMap]
  refine ⟨fun p hp => ?_, (pairs_sorted h).imp_of_mem fun hp hp' hlt x hx y hy => ?_⟩
  · obtain ⟨h1, h2, h3, h4⟩ := (mem_pairs h).mp hp
    simp
    omega
  · obtain ⟨h1, h2, h3, h4⟩ := (mem_pairs h).mp hp
    obtain ⟨k1, k2, k3, k4⟩ := (mem_pairs h).mp hp'
    rename_i p p'
    simp at hx hy
    have inj : mi b p.1 = mi b p'.1 → p.1 = p'.1 := fun z => by
      rw [← mi_mi h h1 h2, ← mi_mi h k1 k2, z]
    rcases hx with rfl | rfl <;> rcases hy with rfl | rfl
    · omega
    · intro z
      have : mi b p.1 = p'.1 := by rw [z, k4, mi_mi h k1 k2]
      omega
    · intro z
      have : mi b p'.1 = p.1 := by rw [← z, h4, mi_mi h h1 h2]
      omega
    · intro z
      rw [h4, k4] at z
      have := inj z
      omega
theorem all_nodup {b : List G} (h : VB b) : (jn b ++ lones b).Nodup := by
  rw [List.nodup_append]
  refine ⟨jn_nodup h, List.Pairwise.filter _ List.nodup_range, fun x hx y hy z => ?_⟩
  subst z
  simp [lones] at hy
  exact hy.2 hx
end K01

set_option linter.all false
set_option maxRecDepth 10000
namespace K01
open QE
/-! ### lost leaves -/
def lostI (b : List G) : Int := (b.map fun g => 2 * (g.1 : Int) - (g.2.length : Int)).sum
theorem lo (k : Nat) (S : Sto) {b : List G} (h : VB b) : callFn prog (k + 6) 14 [encB b] S = .ok (.int (lostI b)) S := by
  rw [run_fn (d := d_lost_many) rfl rfl]
  have hc := ev_comp (c := cxt prog (k + 5) S.length) (own := [1, 2]) (tg := .tup [.name 1, .name 2]) (src := .it (.var 0)) (ifs := []) (elt := .bin .sub (.bin .mul (.lit (.int 2)) (.var 1)) (.bi .len [.var 2])) (env := [some (encB b), none, none]) (S := S) (S1 := S) (S2 := S)
    (xs := b.map encG) (by simp [encB, walkOf])
    (comp_all encG (fun g => .int (2 * (g.1 : Int) - (g.2.length : Int))) b fun g _ => ⟨[some (encB b), some (nv g.1), some (.tup (g.2.map nv))], by simp [wipe, encG], by
      simp [QE.bin, mulV, subV, nv, sm2, callBi, lenOf, asSeq]⟩)
    (by rw [List.length_map]; have := h.few; exact len_lim (by omega))
  simp [d_lost_many, nbV k S h, hc, callBi, intsV, asList, ints_map, lostI]
/-! ### openings -/
def SL (b : List G) : List Val := (List.range (places b).length).map fun i => encS (pq b i).2
theorem SL_at {b : List G} {i : Nat} (hi : i < (places b).length) (S : Sto) (f : Bool) : item S (.lst f (SL b)) (nv i) = some (encS (pq b i).2) := by
  simp [SL, nv, item, asList, itemOf, atI, ixN, hi]
theorem encS0 (n : Nat) (S : Sto) : item S (encS n) (.int 0) = some (if n % 2 = 1 then sH else sF) := by simp [encS, item, itemOf, atI, ixN]
theorem encS1 (n : Nat) (S : Sto) : item S (encS n) (.int 1) = some (if n % 2 = 1 then sF else sH) := by simp [encS, item, itemOf, atI, ixN]
theorem ne_sides (m n : Nat) (S : Sto) : QE.cmp S .ne (if m % 2 = 1 then sF else sH) (if n % 2 = 1 then sH else sF) = some (decide (m % 2 = n % 2)) := by
  by_cases h1 : m % 2 = 1 <;> by_cases h2 : n % 2 = 1 <;> simp [h1, h2, sH, sF, QE.cmp, eqVal, res, Val.chk, Val.eqv, nt] <;> omega
def unl (b : List G) : List Nat := (List.range ((places b).length - 1)).filter fun i => decide ((pq b i).2 % 2 = (pq b (i + 1)).2 % 2)
theorem nv_add (n : Nat) (S : Sto) : QE.bin S .add (nv n) (.int 1) = some (nv (n + 1)) := by simp [QE.bin, addV, nv]
theorem nv_sub (n : Nat) (h : 1 ≤ n) (S : Sto) : QE.bin S .sub (.int n) (.int 1) = some (nv (n - 1)) := by
  simp only [QE.bin, subV, nv, Option.some.injEq, Val.int.injEq]
  omega
theorem places_pos {b : List G} (h : VB b) : 1 ≤ (places b).length := by
  cases hb : b with
  | nil => have := h.ne; rw [hb] at this; simp at this
  | cons g b' =>
    have hg := (h.each g (by rw [hb]; simp)).ne
    cases hp : g.2 with
    | nil => exact absurd hp hg
    | cons p ps => simp [places, plFrom, hp]
theorem bind_int (n : Nat) (S : Sto) : asInt (nv n) S = .ok (n : Int) S := by exact id rfl
theorem un (k : Nat) (S : Sto) {b : List G} (h : VB b) : callFn prog (k + 7) 19 [encB b] S = .ok (.tup ((unl b).map nv)) S := by
  rw [run_fn (d := d_unlike_openings) rfl rfl]
  have hl := places_len h
  have h1 := places_pos h
  have hs : evalSrc (cxt prog (k + 6) S.length) (.rng1 (.bi .len [.call 8 [.var 0]])) [some (encB b), none, none, none] S = .ok ((List.range (places b).length).map nv) S := by
    simp [pl (k + 5) S h, callBi, lenOf, asSeq, asList]
    exact rng_ok _ _ (by omega)
  have hc := ev_comp (c := cxt prog (k + 6) S.length) (own := [2]) (tg := .name 2) (ifs := []) (elt := .call 18 [.var 0, .var 2]) hs
    (comp_all nv (fun i => encS (pq b i).2) _ fun i hi => ⟨[some (encB b), none, some (nv i), none], by simp [wipe], by
      have hi := List.mem_range.mp hi
      simp [so k S h i (pq_get hi)]⟩)
    (by rw [List.length_map, List.length_range]; exact len_lim hl)
  have hSL : (List.range (places b).length).map (fun i => (encS (pq b i).2).settle) = SL b := rfl
  rw [hSL] at hc
  have hs2 : evalSrc (cxt prog (k + 6) S.length) (.rng1 (.bin .sub (.bi .len [.var 1]) (.lit (.int 1)))) [some (encB b), some (.lst false (SL b)), none, none] S = .ok ((List.range ((places b).length - 1)).map nv) S := by
    have hlen : (SL b).length = (places b).length := by simp [SL]
    simp [callBi, lenOf, asSeq, asList, hlen, nv_sub _ h1, bind_int]
    exact rng_ok _ _ (by omega)
  have hc2 := ev_comp (c := cxt prog (k + 6) S.length) (own := [3]) (tg := .name 3) (ifs := [.cmp .ne (.idx (.idx (.var 1) (.var 3)) (.lit (.int 1))) (.idx (.idx (.var 1) (.bin .add (.var 3) (.lit (.int 1)))) (.lit (.int 0)))]) (elt := .var 3) hs2
    (comp_run nv (fun i => decide ((pq b i).2 % 2 = (pq b (i + 1)).2 % 2)) nv _ fun i hi => ⟨[some (encB b), some (.lst false (SL b)), none, some (nv i)], by simp [wipe], by
      have hi := List.mem_range.mp hi
      simp [SL_at (show i < (places b).length by omega), SL_at (show i + 1 < (places b).length by omega), nv_add, encS0, encS1, ne_sides], fun _ => by simp⟩)
    (by rw [List.length_map]; exact Nat.le_trans (List.length_filter_le _ _) (by rw [List.length_range]; have := len_lim hl; omega))
  simp [d_unlike_openings, nbV (k + 1) S h, hc, hc2, callBi, tupleOf, asSeq, asList, unl]
/-! ### marks that fit -/
def marksV (b : List G) : Val := .tup [.tup ((pairs b).map encP), .tup ((lones b).map nv)]
theorem marks0 (b : List G) (S : Sto) : item S (marksV b) (.int 0) = some (.tup ((pairs b).map encP)) := by simp [marksV, item, itemOf, atI, ixN]
theorem marks1 (b : List G) (S : Sto) : item S (marksV b) (.int 1) = some (.tup ((lones b).map nv)) := by simp [marksV, item, itemOf, atI, ixN]
@[simp] theorem marks_st (b : List G) : (marksV b).settle = marksV b := by exact id rfl
theorem lt_P (p q : Nat × Nat) : ltVal (encP p) (encP q) = some (lexLtI [(p.1 : Int), p.2] [(q.1 : Int), q.2]) := by simp [encP, nv, ltVal, ints?]
theorem lones_len {b : List G} (h : VB b) : (lones b).length ≤ (places b).length := by
  unfold lones
  exact Nat.le_trans (List.length_filter_le _ _) (by rw [List.length_range]; exact Nat.le_refl _)
theorem jn_len (b : List G) : (jn b).length = 2 * (pairs b).length := by
  unfold jn
  induction pairs b with
  | nil => rfl
  | cons p l ih => simp [ih]; omega
theorem named_loop (k : Nat) (S : Sto) (A V : Val) : ∀ (l : List (Nat × Nat)) (acc : List Nat) (x3 : Option Val), acc.length + 2 * l.length ≤ lim → ∃ y3,
    forLoop (.name 3) (execSs (cxt prog k S.length) [.ext 2 (.bi .list [.var 3])]) (l.map encP) [some A, some V, some (.ref S.length), x3, none, none] (S ++ [.lst (acc.map nv)])
      = .ok (.nx, [some A, some V, some (.ref S.length), y3, none, none]) (S ++ [.lst ((acc ++ l.flatMap fun p => [p.1, p.2]).map nv)])
  | [], acc, x3, _ => ⟨x3, by simp [forLoop]⟩
  | p :: l, acc, x3, h => by
    simp only [List.length_cons] at h
    obtain ⟨y3, ih⟩ := named_loop k S A V l (acc ++ [p.1, p.2]) (some (encP p)) (by simp; omega)
    refine ⟨y3, ?_⟩
    have hz : acc.length + 2 ≤ 16777216 := by
      have : acc.length + 2 ≤ lim := by omega
      exact this
    have hp : callBi (S ++ [.lst (acc.map nv)]) .list [encP p] = some (.lst true [nv p.1, nv p.2]) := by simp [encP, callBi, listOf, asSeq]
    simp only [List.map_cons, forLoop, bind_name]
    simp [hp, lim, QE.extend, asList, hz]
    simpa using ih
theorem count_nv (i : Nat) (l : List Nat) : (l.map fun n : Nat => (n : Int)).count (i : Int) = l.count i := by
  induction l with
  | nil => rfl
  | cons n l ih =>
    simp only [List.map_cons, List.count_cons, ih]
    congr 1
    have : ((n : Int) == (i : Int)) = (n == i) := by
      rw [Bool.eq_iff_iff]; simp; omega
    rw [this]
theorem intsV_nv (S : Sto) (f : Bool) (l : List Nat) : intsV S (.lst f (l.map nv)) = some (l.map fun n : Nat => (n : Int)) := by
  simp only [intsV, asList]
  exact ints_map _ l
theorem nv_list (S : Sto) (f : Bool) (l l' : List Nat) (h : l.length + l'.length ≤ lim) : QE.bin (S ++ [.lst (l.map nv)]) .add (.ref S.length) (.lst f (l'.map nv)) = some (.lst true ((l ++ l').map nv)) := by
  simp [QE.bin, addV, asList, h]
theorem count1 (S : Sto) (i : Nat) (l : List Nat) (hnd : l.Nodup) (hi : i ∈ l) : callMe S .count (.lst true (l.map nv)) [nv i] = some (.int 1) := by
  show (match intsV S (.lst true (l.map nv)) with
    | some js => some (Val.int (js.count (i : Int)))
    | none => none) = _
  rw [intsV_nv]
  show some (Val.int _) = _
  rw [count_nv, hnd.count, if_pos hi]
  rfl
theorem fm (k : Nat) (S : Sto) {b : List G} (h : VB b) : callFn prog (k + 5) 11 [nv (places b).length, marksV b] S = .ok (.bl true) S := by
  rw [run_fn (d := d_fits_marks) rfl rfl]
  have hl := places_len h
  have hp := pairs_len h
  have hpl : (pairs b).length ≤ (places b).length := prFrom_len b _ 0
  have hln := lones_len h
  have hj := jn_len b
  have hsum : (jn b).length + (lones b).length ≤ lim := by simp only [lim]; omega
  have f0 : ∀ S', callFn prog (k + 4) 2 [marksV b, .int 2, .int 2] S' = .ok (.bl true) S' := fun S' => tu_tup (k + 3) _ 2 2 S'
  have f1 : ∀ S', callFn prog (k + 4) 2 [.tup ((pairs b).map encP), .int 0, nv (places b).length] S' = .ok (.bl true) S' := fun S' => by
    have := tu_tup (k + 3) ((pairs b).map encP) 0 (places b).length S'
    rw [show (decide ((0 : Int) ≤ ((pairs b).map encP).length) && decide ((((pairs b).map encP).length : Int) ≤ (places b).length)) = true by simp; omega] at this
    exact this
  have f2 : ∀ S', callFn prog (k + 4) 2 [.tup ((lones b).map nv), .int 0, nv (places b).length] S' = .ok (.bl true) S' := fun S' => by
    have := tu_tup (k + 3) ((lones b).map nv) 0 (places b).length S'
    rw [show (decide ((0 : Int) ≤ ((lones b).map nv).length) && decide ((((lones b).map nv).length : Int) ≤ (places b).length)) = true by simp; omega] at this
    exact this
  have hc1 := ev_comp (c := cxt prog (k + 4) S.length) (own := [3]) (tg := .name 3) (src := .it (.idx (.var 1) (.lit (.int 0)))) (ifs := []) (elt := .call 2 [.var 3, .lit (.int 2), .lit (.int 2)]) (env := [some (nv (places b).length), some (marksV b), none, none, none, none]) (S := S) (S1 := S) (S2 := S)
    (xs := (pairs b).map encP) (by simp [marks0, walkOf])
    (comp_all encP (fun _ => .bl true) (pairs b) fun p _ => ⟨[some (nv (places b).length), some (marksV b), none, some (encP p), none, none], by simp [wipe], by
      have := tu_tup (k + 3) [nv p.1, nv p.2] 2 2 S
      simpa [encP] using this⟩) (by rw [List.length_map]; exact len_lim hp)
  obtain ⟨y3, hf⟩ := named_loop (k + 4) S (nv (places b).length) (marksV b) (pairs b) [] none (by simp [lim]; omega)
  have hx := x_for (c := cxt prog (k + 4) S.length) (env := [some (nv (places b).length), some (marksV b), some (.ref S.length), none, none, none]) (S := S ++ [.lst []]) (src := .it (.idx (.var 1) (.lit (.int 0)))) (xs := (pairs b).map encP) (S1 := S ++ [.lst []]) (by simp [marks0, walkOf]) (by simpa using hf)
  have hjn : (pairs b).flatMap (fun p => [p.1, p.2]) = jn b := rfl
  rw [hjn] at hx
  have hlist : ∀ S', callBi S' .list [.tup ((lones b).map nv)] = some (.lst true ((lones b).map nv)) := fun S' => by simp [callBi, listOf, asSeq]
  let S2 := S ++ [Ob.lst ((jn b).map nv)]
  let e2 : Env := [some (nv (places b).length), some (marksV b), some (.ref S.length), y3, none, none]
  have hboth : evalE (cxt prog (k + 4) S.length) (.bin .add (.var 2) (.bi .list [.idx (.var 1) (.lit (.int 1))])) e2 S2 = .ok (.lst true ((jn b ++ lones b).map nv)) S2 := by
    simp [e2, S2, marks1, hlist, nv_list _ _ _ _ hsum, -List.map_append]
  have lt_all : ∀ i ∈ jn b ++ lones b, i < (places b).length := fun i hi => by
    rcases List.mem_append.mp hi with hi | hi
    · exact jn_lt h hi
    · exact List.mem_range.mp (List.mem_filter.mp hi).1
  have hc2 := ev_comp (c := cxt prog (k + 4) S.length) (own := [4]) (tg := .name 4) (src := .it (.bin .add (.var 2) (.bi .list [.idx (.var 1) (.lit (.int 1))]))) (ifs := []) (elt := .call 1 [.var 4, .lit (.int 0), .bin .sub (.var 0) (.lit (.int 1))]) (env := e2) (S := S2) (S1 := S2) (S2 := S2)
    (xs := (jn b ++ lones b).map nv) (by rw [sr_it, hboth]; simp [walkOf])
    (comp_all nv (fun _ => .bl true) (jn b ++ lones b) fun i hi => ⟨[some (nv (places b).length), some (marksV b), some (.ref S.length), y3, some (nv i), none], by simp [wipe, e2], by
      have hlt := lt_all i hi
      have := fw_int (k + 2) i 0 ((places b).length - 1) S2
      rw [show (decide ((0 : Int) ≤ (i : Int)) && decide ((i : Int) ≤ ((places b).length : Int) - 1)) = true by simp; omega] at this
      simp [QE.bin, subV, nv, this]⟩) (by rw [List.length_map, List.length_append]; exact hsum)
  have hc3 := ev_comp (c := cxt prog (k + 4) S.length) (own := [4, 5]) (tg := .tup [.name 4, .name 5]) (src := .it (.idx (.var 1) (.lit (.int 0)))) (ifs := []) (elt := .cmp .lt (.var 4) (.var 5)) (env := e2) (S := S2) (S1 := S2) (S2 := S2)
    (xs := (pairs b).map encP) (by simp [marks0, walkOf, e2])
    (comp_all encP (fun _ => .bl true) (pairs b) fun p hp => ⟨[some (nv (places b).length), some (marksV b), some (.ref S.length), y3, some (nv p.1), some (nv p.2)], by simp [wipe, e2, encP], by
      obtain ⟨h1, h2, h3, h4⟩ := (mem_pairs h).mp hp
      rw [← h4] at h3
      simp [QE.cmp, ltVal, nv, h3]⟩) (by rw [List.length_map]; exact len_lim hp)
  have hr1 := rising (k + 3) S2 (pairs b) encP (fun p q => lexLtI [(p.1 : Int), p.2] [(q.1 : Int), q.2]) (fun _ => rfl) lt_P (len_lim hp)
  rw [adj_sorted ((pairs_sorted h).imp fun {p q} hpq => by
    simp only [lexLtI]
    rw [if_neg (by omega)]
    simpa using hpq)] at hr1
  have hr2 := risI (k + 3) S2 ((lones b).map fun n : Nat => (n : Int)) (by rw [List.length_map]; exact len_lim (by omega))
  rw [← ints_nv, adj_sorted (by
    rw [List.pairwise_map]
    exact (List.Pairwise.filter _ List.pairwise_lt_range).imp fun hab => by simp only [ltI, decide_eq_true_eq]; omega)] at hr2
  have hc4 := ev_comp (c := cxt prog (k + 4) S.length) (own := [4]) (tg := .name 4) (src := .it (.bin .add (.var 2) (.bi .list [.idx (.var 1) (.lit (.int 1))]))) (ifs := []) (elt := .cmp .eq (.meth .count (.bin .add (.var 2) (.bi .list [.idx (.var 1) (.lit (.int 1))])) (.var 4)) (.lit (.int 1))) (env := e2) (S := S2) (S1 := S2) (S2 := S2)
    (xs := (jn b ++ lones b).map nv) (by rw [sr_it, hboth]; simp [walkOf])
    (comp_all nv (fun _ => .bl true) (jn b ++ lones b) fun i hi => ⟨[some (nv (places b).length), some (marksV b), some (.ref S.length), y3, some (nv i), none], by simp [wipe, e2], by
      have hb2 : evalE (cxt prog (k + 4) S.length) (.bin .add (.var 2) (.bi .list [.idx (.var 1) (.lit (.int 1))])) [some (nv (places b).length), some (marksV b), some (.ref S.length), y3, some (nv i), none] S2 = .ok (.lst true ((jn b ++ lones b).map nv)) S2 := by
        simp [S2, marks1, hlist, nv_list _ _ _ _ hsum, -List.map_append]
      have hcount := count1 S2 i (jn b ++ lones b) (all_nodup h) hi
      rw [ev_cmp, ev_meth, hb2]
      simp only [R.bind_okS, asList, R.of_some, ev_var, ev_lit]
      simp only [R.bind_okS, nv_st, List.getElem?_cons_succ, List.getElem?_cons_zero, hcount, R.of_some]
      simp [QE.cmp, eqVal, res, Val.chk, Val.eqv]⟩) (by rw [List.length_map, List.length_append]; exact hsum)
  have allT : ∀ (S' : Sto) (α : Type) (l : List α), callBi S' .all [.lst false (l.map fun _ => Val.bl true)] = some (.bl true) := fun S' α l => by
    simp only [callBi, boolsV, asList]
    rw [bools_map (fun _ => true) l]
    simp [List.all_map]
  simp only [set_bl] at hc1 hc2 hc3 hc4
  rw [hjn] at hf
  have hA : ∀ S', QE.callBi S' .all [.lst false ((pairs b).map fun _ => Val.bl true)] = some (.bl true) := fun S' => allT S' _ (pairs b)
  have hB : ∀ S', QE.callBi S' .all [.lst false ((jn b ++ lones b).map fun _ => Val.bl true)] = some (.bl true) := fun S' => allT S' _ (jn b ++ lones b)
  suffices hrun : execSs (cxt prog (k + 4) S.length) d_fits_marks.body [some (nv (places b).length), some (marksV b), none, none, none, none] S = .ok (.rt (.bl true), e2) S2 from
    (congrArg (finish S.length) hrun).trans (by simp [finish, S2, freeze, freeze1, Val.low])
  refine ss_step (env' := [some (nv (places b).length), some (marksV b), none, none, none, none]) (S' := S) (by simp [f0, f1, f2, marks0, marks1]) ?_
  refine ss_step (env' := [some (nv (places b).length), some (marksV b), none, none, none, none]) (S' := S) (by simp [hc1, hA]) ?_
  refine ss_step (env' := [some (nv (places b).length), some (marksV b), some (.ref S.length), none, none, none]) (S' := S ++ [.lst []]) (by simp [newCell, lim]) ?_
  refine ss_step (env' := e2) (S' := S2) hx ?_
  refine ss_step (env' := e2) (S' := S2) (by simp [hc2, hB, -List.map_append]) ?_
  refine ss_step (env' := e2) (S' := S2) (by
    have g0 : e2[1]? = some (some (marksV b)) := rfl
    simp [hc3, hA, g0, marks0, marks1, hr1, hr2]) ?_
  simp [hc4, hB, -List.map_append]
end K01

set_option linter.all false
set_option maxRecDepth 10000
namespace K01
open QE
theorem allT {α : Type} (S' : Sto) (l : List α) : callBi S' .all [.lst false (l.map fun _ => Val.bl true)] = some (.bl true) := by
  simp only [callBi, boolsV, asList]
  rw [bools_map (fun _ => true) l]
  simp [List.all_map]
/-! ### in a list -/
theorem chk_P (d : Nat) (p : Nat × Nat) : (encP p).chk (d + 1) = true := by simp [encP, nv, Val.chk, Val.chkL]
theorem chkL_P (d : Nat) : ∀ l : List (Nat × Nat), Val.chkL (d + 1) (l.map encP) = true
  | [] => rfl
  | p :: l => by simp only [List.map_cons, Val.chkL, chk_P, chkL_P d l, Bool.and_self]
theorem eqv_P (p q : Nat × Nat) : (encP p).eqv (encP q) = decide (p = q) := by
  obtain ⟨a, b⟩ := p; obtain ⟨c, d⟩ := q
  simp only [encP, nv, Val.eqv, Val.eqvL, Prod.mk.injEq, Bool.decide_and, Bool.and_true]
  congr 1 <;> (rw [Bool.eq_iff_iff]; simp; omega)
theorem any_P (p : Nat × Nat) (l : List (Nat × Nat)) : ((l.map encP).any fun y => y.eqv (encP p)) = decide (p ∈ l) := by
  induction l with
  | nil => rfl
  | cons q l ih =>
    simp only [List.map_cons, List.any_cons, ih, eqv_P, List.mem_cons, Bool.decide_or]
    congr 1
    rw [Bool.eq_iff_iff]
    simp [eq_comm]
theorem in_P (S : Sto) (p : Nat × Nat) (l : List (Nat × Nat)) : QE.cmp S .in_ (encP p) (.lst false (l.map encP)) = some (decide (p ∈ l)) := by
  simp only [QE.cmp, isIn, asList, anyEq]
  rw [chk_P 63, chkL_P 62]
  simp only [Bool.and_self, if_true, any_P]
theorem in_nv (S : Sto) (i : Nat) (l : List Nat) : QE.cmp S .in_ (nv i) (.lst false (l.map nv)) = some (decide (i ∈ l)) := by
  simp only [QE.cmp, isIn, asList, anyEq]
  rw [show (nv i).chk 64 = true from rfl, chk_nv 63]
  simp only [Bool.and_self, if_true, any_nv]
theorem df (k : Nat) (S : Sto) {b : List G} (h : VB b) (hf : (places b).length < 41) : callFn prog (k + 6) 20 [encB b, marksV b] S = .ok (.bl true) S := by
  rw [run_fn (d := d_does_fit) rfl rfl]
  have hl := places_len h
  have hp := pairs_len h
  have hln := lones_len h
  have hlen : ∀ S', callBi S' .len [.lst false ((places b).map encP)] = some (nv (places b).length) := fun S' => by simp [callBi, lenOf, asSeq, asList, nv]
  have hgt : ∀ S', QE.cmp S' .gt (nv (places b).length) (.int 40) = some false := fun S' => by simp [QE.cmp, gtVal, nv]; omega
  have hc1 := ev_comp (c := cxt prog (k + 5) S.length) (own := [4]) (tg := .name 4) (src := .it (.idx (.var 1) (.lit (.int 0)))) (ifs := []) (elt := .cmp .in_ (.var 4) (.var 2)) (env := [some (encB b), some (marksV b), some (.lst false ((pairs b).map encP)), some (.lst false ((lones b).map nv)), none, none]) (S := S) (S1 := S) (S2 := S)
    (xs := (pairs b).map encP) (by simp [marks0, walkOf])
    (comp_all encP (fun _ => .bl true) (pairs b) fun p hp => ⟨[some (encB b), some (marksV b), some (.lst false ((pairs b).map encP)), some (.lst false ((lones b).map nv)), some (encP p), none], by simp [wipe], by
      simp [in_P, hp]⟩) (by rw [List.length_map]; exact len_lim hp)
  have hc2 := ev_comp (c := cxt prog (k + 5) S.length) (own := [5]) (tg := .name 5) (src := .it (.idx (.var 1) (.lit (.int 1)))) (ifs := []) (elt := .cmp .in_ (.var 5) (.var 3)) (env := [some (encB b), some (marksV b), some (.lst false ((pairs b).map encP)), some (.lst false ((lones b).map nv)), none, none]) (S := S) (S1 := S) (S2 := S)
    (xs := (lones b).map nv) (by simp [marks1, walkOf])
    (comp_all nv (fun _ => .bl true) (lones b) fun p hp => ⟨[some (encB b), some (marksV b), some (.lst false ((pairs b).map encP)), some (.lst false ((lones b).map nv)), none, some (nv p)], by simp [wipe], by
      simp [in_nv, hp]⟩) (by rw [List.length_map]; exact len_lim (by omega))
  have hA : ∀ S', QE.callBi S' .all [.lst false ((pairs b).map fun _ => Val.bl true)] = some (.bl true) := fun S' => allT S' (pairs b)
  have hB : ∀ S', QE.callBi S' .all [.lst false ((lones b).map fun _ => Val.bl true)] = some (.bl true) := fun S' => allT S' (lones b)
  simp only [set_bl] at hc1 hc2
  simp [d_does_fit, nbV k S h, pl (k + 4) S h, pr (k + 3) S h, ln (k + 2) S h, fm k S h, hlen, hgt, lim, hc1, hc2, hA, hB]
/-! ### mates -/
def mateV (b : List G) (i : Nat) : Val := if has b i then nv (mi b i) else .non
@[simp] theorem mate_st (b : List G) (i : Nat) : (mateV b i).settle = mateV b i := by unfold mateV; split <;> exact id rfl
def fnd (b : List G) (i : Nat) : List Nat := ((pairs b).filter fun p => decide (i = p.1 ∨ i = p.2)).map fun p => if p.1 = i then p.2 else p.1
theorem fnd_all {b : List G} (h : VB b) {i : Nat} (hi : i < (places b).length) : ∀ x ∈ fnd b i, has b i ∧ x = mi b i := by
  intro x hx
  obtain ⟨p, hp, rfl⟩ := List.mem_map.mp hx
  obtain ⟨hp, hc⟩ := List.mem_filter.mp hp
  obtain ⟨h1, h2, h3, h4⟩ := (mem_pairs h).mp hp
  simp at hc
  by_cases e : p.1 = i
  · subst e
    simp [h2, h4]
  · have e2 : i = p.2 := by rcases hc with hc | hc; exact absurd hc.symm e; exact hc
    subst e2
    simp only [e, if_false]
    rw [h4]
    exact ⟨has_mi h h1 h2, (mi_mi h h1 h2).symm⟩
theorem fnd_has {b : List G} (h : VB b) {i : Nat} (hi : i < (places b).length) (hm : has b i) : ∃ l, fnd b i = mi b i :: l := by
  have : fnd b i ≠ [] := by
    have := (mem_jn h hi).mpr hm
    unfold jn at this
    obtain ⟨p, hp, hc⟩ := List.mem_flatMap.mp this
    intro z
    have hx : (if p.1 = i then p.2 else p.1) ∈ fnd b i := List.mem_map.mpr ⟨p, List.mem_filter.mpr ⟨hp, by simpa using hc⟩, rfl⟩
    rw [z] at hx
    cases hx
  cases hf : fnd b i with
  | nil => exact absurd hf this
  | cons x l => exact ⟨l, by rw [(fnd_all h hi x (by rw [hf]; simp)).2]⟩
theorem fnd_no {b : List G} (h : VB b) {i : Nat} (hi : i < (places b).length) (hm : ¬ has b i) : fnd b i = [] := by
  cases hf : fnd b i with
  | nil => rfl
  | cons x l => exact absurd (fnd_all h hi x (by rw [hf]; simp)).1 hm
theorem eq_nv (S : Sto) (a c : Nat) : QE.cmp S .eq (nv a) (nv c) = some (decide (a = c)) := by
  simp only [QE.cmp, eqVal, res, nv]
  simp [Val.chk, Val.eqv]
  rw [Bool.eq_iff_iff]
  simp
  omega
theorem in_two (S : Sto) (i a c : Nat) : QE.cmp S .in_ (nv i) (.tup [nv a, nv c]) = some (decide (i = a ∨ i = c)) := by
  simp only [QE.cmp, isIn, nv, hasFlat]
  simp [Val.flat, Val.eqv]
  rw [Bool.eq_iff_iff]
  simp
  omega
theorem ne_nil (S : Sto) (l : List Nat) : QE.cmp S .ne (.lst false (l.map nv)) (.lst true []) = some (decide (l ≠ [])) := by
  simp only [QE.cmp, eqVal, res]
  have h1 : (Val.lst false (l.map nv)).chk 64 = true := by simp only [Val.chk]; exact chk_nv 63 l
  simp only [h1]
  cases l <;> simp [Val.chk, Val.chkL, Val.eqv, Val.eqvL, nt]
theorem ma (k : Nat) (S : Sto) {b : List G} (h : VB b) (i : Nat) (hi : i < (places b).length) : callFn prog (k + 6) 16 [encB b, nv i] S = .ok (mateV b i) S := by
  rw [run_fn (d := d_mate_of) rfl rfl]
  have hp := pairs_len h
  have hc := ev_comp (c := cxt prog (k + 5) S.length) (own := [3, 4]) (tg := .tup [.name 3, .name 4]) (src := .it (.call 9 [.var 0])) (ifs := [.cmp .in_ (.var 1) (.tup [.var 3, .var 4])]) (elt := .ite (.cmp .eq (.var 3) (.var 1)) (.var 4) (.var 3)) (env := [some (encB b), some (nv i), none, none, none]) (S := S) (S1 := S) (S2 := S)
    (xs := (pairs b).map encP) (by simp [pr (k + 3) S h, walkOf])
    (comp_run encP (fun p => decide (i = p.1 ∨ i = p.2)) (fun p => nv (if p.1 = i then p.2 else p.1)) (pairs b) fun p hp => ⟨[some (encB b), some (nv i), none, some (nv p.1), some (nv p.2)], by simp [wipe, encP], by
      simp [in_two, lim], fun _ => by
      by_cases e : p.1 = i <;> simp [eq_nv, e]⟩)
    (by rw [List.length_map]; exact Nat.le_trans (List.length_filter_le _ _) (len_lim hp))
  have hfd : ((pairs b).filter fun p => decide (i = p.1 ∨ i = p.2)).map (fun p => (nv (if p.1 = i then p.2 else p.1)).settle) = (fnd b i).map nv := by
    unfold fnd
    rw [List.map_map]
    rfl
  rw [hfd] at hc
  by_cases hm : has b i
  · obtain ⟨l, hl⟩ := fnd_has h hi hm
    rw [hl] at hc
    have hne := ne_nil S (mi b i :: l)
    simp [d_mate_of, nbV k S h, nl (k + 2) S h i hi, hc, mateV, hm, lim]
    rw [List.map_cons] at hne
    simp [hne, item, asList, itemOf, atI, ixN]
  · rw [fnd_no h hi hm] at hc
    have hne := ne_nil S []
    simp at hne
    simp [d_mate_of, nbV k S h, nl (k + 2) S h i hi, hc, mateV, hm, lim, hne]
/-! ### the law's own -/
def P0 (b : List G) : Val := .lst false ((places b).map encP)
theorem index_P (q : Nat × Nat) : ∀ (l : List (Nat × Nat)) (n : Nat), q ∈ l → indexOf (encP q) (l.map encP) n = some (n + l.idxOf q)
  | [], _, h => by cases h
  | p :: l, n, h => by
    simp only [List.map_cons, indexOf, eqv_P, List.idxOf_cons, decide_eq_true_eq]
    by_cases e : p = q
    · subst e; simp
    · have e2 : (p == q) = false := by simpa using e
      rcases List.mem_cons.mp h with h | h
      · exact absurd h.symm e
      · simp only [e, if_false, e2, cond_false, index_P q l (n + 1) h]
        congr 1
        omega
theorem lmate (k : Nat) (S : Sto) {b : List G} (h : VB b) (i : Nat) (hi : i < (places b).length) : callFn prog (k + 1) 26 [encB b, P0 b, nv i] S = .ok (mateV b i) S := by
  rw [run_fn (d := d__law_mate) rfl rfl]
  have hq := pq_get hi
  obtain ⟨g, hg, vg, hsh, hp1, hp2⟩ := place_ok h (pq_mem hi)
  have hm : mt b (pq b i) = ((pq b i).1, 2 * g.1 + 1 - (pq b i).2) := by simp [mt, hsh]
  have hv : (Val.tup [nv (pq b i).1, .int (2 * (g.1 : Int) + 1 - ((pq b i).2 : Int))]) = encP (mt b (pq b i)) := by
    rw [hm]
    simp only [encP, nv, Val.tup.injEq, List.cons.injEq, Val.int.injEq, and_true, true_and]
    omega
  have hb2 : QE.bin S .mul (.int 2) (nv g.1) = some (.int (2 * g.1)) := by simp [QE.bin, mulV, nv, sm2]
  have hb3 : QE.bin S .add (.int (2 * g.1)) (.int 1) = some (.int (2 * g.1 + 1)) := rfl
  have hb4 : QE.bin S .sub (.int (2 * g.1 + 1)) (nv (pq b i).2) = some (.int (2 * (g.1 : Int) + 1 - ((pq b i).2 : Int))) := rfl
  have hin := in_P S (mt b (pq b i)) (places b)
  have hpl : item S (P0 b) (nv i) = some (.tup [nv (pq b i).1, nv (pq b i).2]) := place_at i S false hq
  have hP : (P0 b).settle = P0 b := rfl
  by_cases hm : has b i
  · have hix : callMe S .index (P0 b) [encP (mt b (pq b i))] = some (nv (mi b i)) := by
      simp only [callMe, P0, asList, QE.idxOf]
      rw [chk_P 63, chkL_P 62, index_P _ _ 0 hm]
      simp [nv, mi, ix]
    have hin' : QE.cmp S .in_ (encP (mt b (pq b i))) (P0 b) = some true := by rw [P0, hin, decide_eq_true (show mt b (pq b i) ∈ places b from hm)]
    have hal : asList S (P0 b) = some ((places b).map encP) := rfl
    simp [d__law_mate, hpl, sheets_at _ hg, sheet0, hb2, hb3, hb4, hv, lim, hin', hix, hal, mateV, hm]
  · have hin' : QE.cmp S .in_ (encP (mt b (pq b i))) (P0 b) = some false := by rw [P0, hin, decide_eq_false (show ¬ mt b (pq b i) ∈ places b from hm)]
    simp [d__law_mate, hpl, sheets_at _ hg, sheet0, hb2, hb3, hb4, hv, lim, hin', mateV, hm]
end K01

set_option linter.all false
set_option maxRecDepth 10000
namespace K01
open QE
/-! ### the same -/
def nice : Nat → Val → Bool
  | _, .non => true
  | _, .bl _ => true
  | _, .int _ => true
  | _, .str s => s.all (· < 1114112)
  | d + 1, .tup xs => decide (xs.length ≤ 1000) && xs.all (nice d)
  | _, _ => false
theorem nice_st {d : Nat} {v : Val} (h : nice d v = true) : v.settle = v := by
  cases v <;> first | exact id rfl | (cases d <;> simp [nice] at h)
theorem same : ∀ (d k : Nat) (v : Val) (S : Sto), nice d v = true → callFn prog (k + d + 1) 23 [v, v] S = .ok (.bl true) S := by
  intro d
  induction d with
  | zero =>
    intro k v S h
    rw [run_fn (d := d__law_same) rfl rfl]
    cases v with
    | non => simp [d__law_same, isTy, tyName, isNon, QE.cmp, isVal]
    | bl b => cases b <;> simp [d__law_same, isTy, tyName, isNon, QE.cmp, isVal]
    | int i => simp [d__law_same, isTy, tyName, isNon, QE.cmp, isVal, callBi, eqVal, res, Val.chk, Val.eqv]
    | str s =>
      have hs : (Val.str s).chk 64 = true := h
      simp [d__law_same, isTy, tyName, isNon, QE.cmp, isVal, callBi, strVal, eqVal, res, hs, Val.eqv]
    | _ => simp [nice] at h
  | succ d ih =>
    intro k v S h
    rw [run_fn (d := d__law_same) rfl rfl]
    cases v with
    | non => simp [d__law_same, isTy, tyName, isNon, QE.cmp, isVal]
    | bl b => cases b <;> simp [d__law_same, isTy, tyName, isNon, QE.cmp, isVal]
    | int i => simp [d__law_same, isTy, tyName, isNon, QE.cmp, isVal, callBi, eqVal, res, Val.chk, Val.eqv]
    | str s =>
      have hs : (Val.str s).chk 64 = true := h
      simp [d__law_same, isTy, tyName, isNon, QE.cmp, isVal, callBi, strVal, eqVal, res, hs, Val.eqv]
    | tup xs =>
      simp only [nice, Bool.and_eq_true, decide_eq_true_eq, List.all_eq_true] at h
      have hlen : callBi S .len [.tup xs] = some (.int xs.length) := by simp [callBi, lenOf, asSeq]
      have hs : evalSrc (cxt prog (k + d + 1) S.length) (.rng1 (.bi .len [.var 1])) [some (.tup xs), some (.tup xs), none] S = .ok ((List.range xs.length).map nv) S := by
        simp [hlen]
        exact rng_ok _ _ h.1
      have hc := ev_comp (c := cxt prog (k + d + 1) S.length) (own := [2]) (tg := .name 2) (ifs := []) (elt := .call 23 [.idx (.var 0) (.var 2), .idx (.var 1) (.var 2)]) hs
        (comp_all nv (fun _ => .bl true) _ fun i hi => ⟨[some (.tup xs), some (.tup xs), some (nv i)], by simp [wipe], by
          have hi := List.mem_range.mp hi
          have hx := h.2 xs[i] (List.getElem_mem hi)
          have hit : item S (.tup xs) (nv i) = some xs[i] := by simp [nv, item, itemOf, atI, ixN, hi]
          simp [hit, nice_st hx, ih k xs[i] S hx]⟩)
        (by rw [List.length_map, List.length_range]; simp only [lim]; omega)
      have hA : QE.callBi S .all [.lst false ((List.range xs.length).map fun _ => Val.bl true)] = some (.bl true) := allT S _
      have hne : QE.cmp S .ne (.int xs.length) (.int xs.length) = some false := by simp [QE.cmp, eqVal, res, Val.chk, Val.eqv, nt]
      simp only [set_bl] at hc
      rw [show k + (d + 1) = k + d + 1 by omega]
      simp [d__law_same, isTy, tyName, hlen, hne, hc, hA]
    | _ => simp [nice] at h
/-! ### the cup -/
def cup (a c : Int) : Ob := .lst [.int a, .int c]
theorem fmod_rng (x m : Int) (h : 0 < m) : 0 ≤ x.fmod m ∧ x.fmod m < m := ⟨Int.fmod_nonneg_of_pos x h, Int.fmod_lt_of_pos x h⟩
theorem small_of {x : Int} (h1 : 0 ≤ x) (h2 : x < 2 ^ 64) : small x = true := by
  unfold small
  simp only [Bool.and_eq_true, decide_eq_true_eq]
  omega
theorem roll (k : Nat) (R : Sto) (a c m : Int) (ha : 0 ≤ a) (hm : 0 < m) (hm2 : m < 1000) : ∃ r a' c' : Int, 0 ≤ r ∧ r < m ∧ 0 ≤ a' ∧ callFn prog (k + 1) 22 [.ref 0, .int m] (cup a c :: R) = .ok (.int r) (cup a' c' :: R) := by
  have hmod : ∀ (x : Int) (S : Sto), QE.bin S .mod (.int x) (.int m) = some (.int (x.fmod m)) := fun x S => by
    simp only [QE.bin, modV]
    rw [if_pos (by omega)]
  have hdiv : ∀ (x : Int) (S : Sto), QE.bin S .fdiv (.int x) (.int m) = some (.int (x.fdiv m)) := fun x S => by
    simp only [QE.bin, fdivV]
    rw [if_pos (by omega)]
  have hit0 : ∀ x y : Int, item (cup x y :: R) (.ref 0) (.int 0) = some (.int x) := fun x y => by simp [cup, item, asList, itemOf, atI, ixN]
  have hit1 : ∀ x y : Int, item (cup x y :: R) (.ref 0) (.int 1) = some (.int y) := fun x y => by simp [cup, item, asList, itemOf, atI, ixN]
  have hset0 : ∀ (n : Nat) (x y z : Int), QE.setIx n (cup x y :: R) (.ref 0) (.int 0) (.int z) = .ok () (cup z y :: R) := fun n x y z => by simp [cup, QE.setIx, ixN, mayPut, Val.low]
  have hset1 : ∀ (n : Nat) (x y z : Int), QE.setIx n (cup x y :: R) (.ref 0) (.int 1) (.int z) = .ok () (cup x z :: R) := fun n x y z => by simp [cup, QE.setIx, ixN, mayPut, Val.low]
  have hlen : ∀ x y : Int, (cup x y :: R).length = (cup a c :: R).length := fun x y => rfl
  by_cases h : 0 < a
  · refine ⟨a.fmod m, a.fdiv m, c, (fmod_rng a m hm).1, (fmod_rng a m hm).2, Int.fdiv_nonneg ha (by omega), ?_⟩
    rw [run_fn (d := d__law_roll) rfl rfl]
    simp [d__law_roll, hit0, hset0, hmod, hdiv, QE.cmp, gtVal, h, callBi, finish]
  · let c1 : Int := (c * 31013 + 8009).fmod 2147483629
    have hc1 := fmod_rng (c * 31013 + 8009) 2147483629 (by omega)
    let d1 : Int := (c1 * (c1 + 283)).fmod 2147483059
    refine ⟨(d1.fdiv 811).fmod m, a, c1, (fmod_rng _ m hm).1, (fmod_rng _ m hm).2, ha, ?_⟩
    rw [run_fn (d := d__law_roll) rfl rfl]
    have sm1 : small 31013 = true := by decide
    have sm3 : small c1 = true := small_of hc1.1 (by have := hc1.2; show c1 < 2 ^ 64; omega)
    have e1 : ∀ S : Sto, QE.bin S .mul (.int c) (.int 31013) = some (.int (c * 31013)) := fun S => by simp [QE.bin, mulV, sm1]
    have e2 : ∀ S : Sto, QE.bin S .add (.int (c * 31013)) (.int 8009) = some (.int (c * 31013 + 8009)) := fun S => rfl
    have e3 : ∀ S : Sto, QE.bin S .mod (.int (c * 31013 + 8009)) (.int 2147483629) = some (.int c1) := fun S => by simp [QE.bin, modV, c1]
    have e4 : ∀ S : Sto, QE.bin S .add (.int c1) (.int 283) = some (.int (c1 + 283)) := fun S => rfl
    have e5 : ∀ S : Sto, QE.bin S .mul (.int c1) (.int (c1 + 283)) = some (.int (c1 * (c1 + 283))) := fun S => by simp [QE.bin, mulV, sm3]
    have e6 : ∀ S : Sto, QE.bin S .mod (.int (c1 * (c1 + 283))) (.int 2147483059) = some (.int d1) := fun S => by simp [QE.bin, modV, d1]
    have e7 : ∀ S : Sto, QE.bin S .fdiv (.int d1) (.int 811) = some (.int (d1.fdiv 811)) := fun S => by simp [QE.bin, fdivV]
    have hint : ∀ (S : Sto) (x : Int), callBi S .int [.int x] = some (.int x) := fun S x => rfl
    simp [d__law_roll, hit0, hit1, hset1, e1, e2, e3, e4, e5, e6, e7, hmod, hint, QE.cmp, gtVal, h, finish]
/-! ### a book is drawn -/
theorem roll_comp (k n : Nat) (R : Sto) (x1 x2 x3 x4 x5 x6 : Option Val) : ∀ (l : List Nat) (a c : Int), 0 ≤ a → ∃ (l' : List Nat) (a' c' : Int), 0 ≤ a' ∧ l'.Sublist l ∧
    compLoop (.name 7) (evalAnd (cxt prog (k + 1) n) [.cmp .gt (.call 22 [.var 0, .lit (.int 4)]) (.lit (.int 0))]) (evalE (cxt prog (k + 1) n) (.var 7)) [some (.ref 0), x1, x2, x3, x4, x5, x6, none] (l.map nv) (cup a c :: R) = .ok (l'.map nv) (cup a' c' :: R)
  | [], a, c, ha => ⟨[], a, c, ha, .slnil, rfl⟩
  | p :: l, a, c, ha => by
    obtain ⟨r, a1, c1, h1, h2, h3, h4⟩ := roll k R a c 4 ha (by omega) (by omega)
    obtain ⟨l', a', c', g1, g2, g3⟩ := roll_comp k n R x1 x2 x3 x4 x5 x6 l a1 c1 h3
    have ht : evalAnd (cxt prog (k + 1) n) [.cmp .gt (.call 22 [.var 0, .lit (.int 4)]) (.lit (.int 0))] [some (.ref 0), x1, x2, x3, x4, x5, x6, some (nv p)] (cup a c :: R) = .ok (decide (0 < r)) (cup a1 c1 :: R) := by
      by_cases hr : 0 < r <;> simp [h4, QE.cmp, gtVal, hr]
    have hbnd : bindT (.name 7) (nv p) [some (.ref 0), x1, x2, x3, x4, x5, x6, none] = some [some (.ref 0), x1, x2, x3, x4, x5, x6, some (nv p)] := by simp
    by_cases hr : 0 < r
    · refine ⟨p :: l', a', c', g1, g2.cons₂ p, ?_⟩
      simp only [List.map_cons, compLoop, hbnd, ht, QE.R.bind_okS, hr, decide_true, if_true, ev_var, List.getElem?_cons_succ, List.getElem?_cons_zero, g3, nv_st]
    · refine ⟨l', a', c', g1, g2.cons p, ?_⟩
      simp only [List.map_cons, compLoop, hbnd, ht, QE.R.bind_okS, hr, decide_false, Bool.false_eq_true, if_false, g3]
theorem rng2_ok (S : Sto) (n : Nat) (h : n ≤ 100) : rangeOf S 1 (n + 1 : Int) = .ok (((List.range n).map (· + 1)).map nv) S := by
  unfold rangeOf
  rw [if_pos (by omega)]
  rw [show ((n : Int) + 1 - 1).toNat = n by omega, rangeV_map, List.map_map]
  congr 1
  apply List.map_congr_left
  intro i _
  simp only [Function.comp_apply, nv, Val.int.injEq]
  push_cast
  omega
theorem rng1_sorted (n : Nat) : ((List.range n).map (· + 1)).Pairwise (· < ·) := by
  rw [List.pairwise_map]
  exact List.pairwise_lt_range.imp fun h => by omega
theorem book_loop (k n : Nat) (R : Sto) : ∀ (m : Nat) (ts : List Val) (gs : List G) (a c : Int) (x4 x5 x6 : Option Val), ts.length = m → gs.length + m ≤ 5 → (∀ g ∈ gs, VG g) → 0 ≤ a → ∃ (hs : List G) (a' c' : Int) (y4 y5 y6 : Option Val), hs.length = m ∧ (∀ g ∈ hs, VG g) ∧ 0 ≤ a' ∧
    forLoop (.name 4) (execSs (cxt prog (k + 1) n) [.asg (.name 5) (.bin .add (.lit (.int 1)) (.call 22 [.var 0, .var 2])), .asg (.name 6) (.bi .tuple [.comp [7] (.name 7) (.rng2 (.lit (.int 1)) (.bin .add (.bin .mul (.lit (.int 2)) (.var 5)) (.lit (.int 1)))) [.cmp .gt (.call 22 [.var 0, .lit (.int 4)]) (.lit (.int 0))] (.var 7)]),
        .asg (.name 3) (.bin .add (.var 3) (.tup [.tup [.var 5, .ite (.cmp .ne (.var 6) (.tup [])) (.var 6) (.tup [.bin .add (.lit (.int 1)) (.call 22 [.var 0, .bin .mul (.lit (.int 2)) (.var 5)])])]]))])
      ts [some (.ref 0), some (.int 5), some (.int 8), some (.tup (gs.map encG)), x4, x5, x6, none] (cup a c :: R)
      = .ok (.nx, [some (.ref 0), some (.int 5), some (.int 8), some (.tup ((gs ++ hs).map encG)), y4, y5, y6, none]) (cup a' c' :: R)
  | 0, ts, gs, a, c, x4, x5, x6, hts, _, _, ha => by
    cases ts with
    | nil => exact ⟨[], a, c, x4, x5, x6, rfl, by simp, ha, by simp [forLoop]⟩
    | cons _ _ => cases hts
  | m + 1, ts, gs, a, c, x4, x5, x6, hts, hm, hg, ha => by
    cases ts with
    | nil => cases hts
    | cons t ts =>
      obtain ⟨r, a1, c1, p1, p2, p3, e1⟩ := roll k R a c 8 ha (by omega) (by omega)
      let s : Nat := (r + 1).toNat
      have hs : (s : Int) = 1 + r := by simp only [s]; omega
      obtain ⟨l, a2, c2, q1, q2, e2⟩ := roll_comp k n R (some (.int 5)) (some (.int 8)) (some (.tup (gs.map encG))) (some t.settle) (some (nv s)) x6 ((List.range (2 * s)).map (· + 1)) a1 c1 p3
      have hlen : l.length ≤ 2 * s := by have := q2.length_le; simpa using this
      have hsorted : l.Pairwise (· < ·) := (rng1_sorted (2 * s)).sublist q2
      have hrng : ∀ p ∈ l, 1 ≤ p ∧ p ≤ 2 * s := fun p hp => by
        have := q2.subset hp
        obtain ⟨i, hi, rfl⟩ := List.mem_map.mp this
        have := List.mem_range.mp hi
        omega
      have b1 : ∀ S : Sto, QE.bin S .add (.int 1) (.int r) = some (nv s) := fun S => by simp only [QE.bin, addV, nv, hs]
      have b2 : ∀ S : Sto, QE.bin S .mul (.int 2) (nv s) = some (.int (2 * s)) := fun S => by simp [QE.bin, mulV, nv, sm2]
      have b3 : ∀ S : Sto, QE.bin S .add (.int (2 * s)) (.int 1) = some (.int (2 * s + 1)) := fun S => rfl
      have hsrc : evalSrc (cxt prog (k + 1) n) (.rng2 (.lit (.int 1)) (.bin .add (.bin .mul (.lit (.int 2)) (.var 5)) (.lit (.int 1)))) [some (.ref 0), some (.int 5), some (.int 8), some (.tup (gs.map encG)), some t.settle, some (nv s), x6, none] (cup a1 c1 :: R) = .ok (((List.range (2 * s)).map (· + 1)).map nv) (cup a1 c1 :: R) := by
        simp only [sr_2, ev_lit, QE.R.bind_okS, int_ok, ev_bin, ev_var, List.getElem?_cons_succ, List.getElem?_cons_zero, b2, b3, QE.R.of_some]
        have := rng2_ok (cup a1 c1 :: R) (2 * s) (by omega)
        push_cast at this
        exact this
      have hc := ev_comp (c := cxt prog (k + 1) n) (own := [7]) hsrc e2 (by rw [List.length_map]; simp only [lim]; omega)
      have htup : ∀ S : Sto, callBi S .tuple [.lst false (l.map nv)] = some (.tup (l.map nv)) := fun S => by simp [callBi, tupleOf, asSeq, asList]
      have hcat : ∀ (S : Sto) (g : G), QE.bin S .add (.tup (gs.map encG)) (.tup [encG g]) = some (.tup ((gs ++ [g]).map encG)) := fun S g => by
        have : gs.length + 1 ≤ lim := by simp only [lim]; omega
        simp [QE.bin, addV, this]
      by_cases hne : l = []
      · subst hne
        have hcmp : ∀ S : Sto, QE.cmp S .ne (.tup []) (.tup []) = some false := fun S => by simp [QE.cmp, eqVal, res, Val.chk, Val.chkL, Val.eqv, Val.eqvL, nt]
        obtain ⟨r3, a3, c3, w1, w2, w3, e3⟩ := roll k R a2 c2 (2 * s) q1 (by omega) (by omega)
        let p : Nat := (r3 + 1).toNat
        have hp : (p : Int) = 1 + r3 := by simp only [p]; omega
        have b4 : ∀ S : Sto, QE.bin S .add (.int 1) (.int r3) = some (nv p) := fun S => by simp only [QE.bin, addV, nv, hp]
        have vg : VG (s, [p]) := ⟨by show 1 ≤ s; omega, by show s ≤ 8; omega, by simp, by simp, fun x hx => by simp at hx; subst hx; show 1 ≤ p ∧ p ≤ 2 * s; omega⟩
        obtain ⟨hs', a', c', y4, y5, y6, z1, z2, z3, z4⟩ := book_loop k n R m ts (gs ++ [(s, [p])]) a3 c3 (some t.settle) (some (nv s)) (some (.tup [])) (by simpa using hts) (by simp; omega) (by
          intro g hgm
          rcases List.mem_append.mp hgm with h | h
          · exact hg g h
          · rw [List.mem_singleton.mp h]; exact vg) w3
        refine ⟨(s, [p]) :: hs', a', c', y4, y5, y6, by simp [z1], by
          intro g hgm
          rcases List.mem_cons.mp hgm with h | h
          · rw [h]; exact vg
          · exact z2 g h, z3, ?_⟩
        have hcat' := fun S => hcat S (s, [p])
        simp only [encG, List.map_cons, List.map_nil] at hcat'
        rw [show gs ++ (s, [p]) :: hs' = gs ++ [(s, [p])] ++ hs' by simp, ← z4]
        simp only [List.map_nil] at hc htup
        simp [forLoop, e1, b1, hc, htup, hcmp, b2, e3, b4, lim]
        rw [hcat']
        simp only [QE.R.of_some, QE.R.bind_okS, set_tup, List.map_append, List.map_cons, List.map_nil, List.append_assoc]
        try rfl
        try simp [encG]
      · have hcmp : ∀ S : Sto, QE.cmp S .ne (.tup (l.map nv)) (.tup []) = some true := fun S => by
          have h1 : (Val.tup (l.map nv)).chk 64 = true := by simp only [Val.chk]; exact chk_nv 63 l
          simp only [QE.cmp, eqVal, res, h1]
          cases l with
          | nil => exact absurd rfl hne
          | cons x l => simp [Val.chk, Val.chkL, Val.eqv, Val.eqvL, nt]
        have vg : VG (s, l) := ⟨by show 1 ≤ s; omega, by show s ≤ 8; omega, hne, hsorted, hrng⟩
        obtain ⟨hs', a', c', y4, y5, y6, z1, z2, z3, z4⟩ := book_loop k n R m ts (gs ++ [(s, l)]) a2 c2 (some t.settle) (some (nv s)) (some (.tup (l.map nv))) (by simpa using hts) (by simp; omega) (by
          intro g hgm
          rcases List.mem_append.mp hgm with h | h
          · exact hg g h
          · rw [List.mem_singleton.mp h]; exact vg) q1
        refine ⟨(s, l) :: hs', a', c', y4, y5, y6, by simp [z1], by
          intro g hgm
          rcases List.mem_cons.mp hgm with h | h
          · rw [h]; exact vg
          · exact z2 g h, z3, ?_⟩
        have hcat' := fun S => hcat S (s, l)
        simp only [encG] at hcat'
        rw [show gs ++ (s, l) :: hs' = gs ++ [(s, l)] ++ hs' by simp, ← z4]
        simp [forLoop, e1, b1, hc, htup, hcmp, lim]
        rw [hcat']
        simp only [QE.R.of_some, QE.R.bind_okS, set_tup, List.map_append, List.map_cons, List.map_nil, List.append_assoc]
        try rfl
        try simp [encG]
theorem bk (k : Nat) (R : Sto) (a c : Int) (ha : 0 ≤ a) : ∃ (b : List G) (a' c' : Int), VB b ∧ 0 ≤ a' ∧ callFn prog (k + 2) 24 [.ref 0, .int 5, .int 8] (cup a c :: R) = .ok (encB b) (cup a' c' :: R) := by
  obtain ⟨r, a1, c1, p1, p2, p3, e1⟩ := roll k R a c 5 ha (by omega) (by omega)
  let m : Nat := (r + 1).toNat
  have hm : (m : Int) = 1 + r := by simp only [m]; omega
  obtain ⟨b, a', c', y4, y5, y6, z1, z2, z3, z4⟩ := book_loop k (cup a c :: R).length R m ((List.range m).map nv) [] a1 c1 none none none (by simp) (by simp; omega) (by simp) p3
  refine ⟨b, a', c', ⟨by omega, by omega, z2⟩, z3, ?_⟩
  rw [run_fn (d := d__law_book) rfl rfl]
  have b1 : ∀ S : Sto, QE.bin S .add (.int 1) (.int r) = some (nv m) := fun S => by simp only [QE.bin, addV, nv, hm]
  have hx := x_for (c := cxt prog (k + 1) (cup a c :: R).length) (env := [some (.ref 0), some (.int 5), some (.int 8), some (.tup []), none, none, none, none]) (S := cup a c :: R) (src := .rng1 (.bin .add (.lit (.int 1)) (.call 22 [.var 0, .var 1]))) (xs := (List.range m).map nv) (S1 := cup a1 c1 :: R) (by
    simp [e1, b1, bind_int]
    exact rng_ok _ _ (by omega)) z4
  have hlen : (cup a c :: R).length = (cup a' c' :: R).length := rfl
  simp only [d__law_book, xs_cons, x_asg, ev_tup, es_nil]
  simp [lim]
  simp at hx
  rw [hx]
  simp [finish, encB]
theorem pl_loop2 (k n : Nat) (S : Sto) {b : List G} (B : Val) (hB : B = encB b) : ∀ (b' : List G) (j : Nat) (acc : List Val) (x2 : Option Val), (∀ i g, b'[i]? = some g → b[j + i]? = some g) → (∀ g ∈ b', VG g) → acc.length + 16 * b'.length ≤ lim → ∃ y2,
    forLoop (.name 2) (execSs (cxt prog k n) [.asg (.name 1) (.bin .add (.var 1) (.comp [3] (.name 3) (.it (.idx (.idx (.var 0) (.var 2)) (.lit (.int 1)))) [] (.tup [.var 2, .var 3])))]) (((List.range b'.length).map (j + ·)).map nv) [some B, some (.lst false acc), x2, none] S
      = .ok (.nx, [some B, some (.lst false (acc ++ (plFrom j b').map encP)), y2, none]) S
  | [], j, acc, x2, _, _, _ => ⟨x2, by simp [forLoop, plFrom]⟩
  | g :: b', j, acc, x2, hj, hv, hl => by
    have hg := (hv g (by simp)).len
    have hat := hj 0 g rfl
    rw [Nat.add_zero] at hat
    simp only [List.length_cons] at hl
    have hc := ev_comp (c := cxt prog k n) (own := [3]) (tg := .name 3) (src := .it (.idx (.idx (.var 0) (.var 2)) (.lit (.int 1)))) (ifs := []) (elt := .tup [.var 2, .var 3]) (env := [some B, some (.lst false acc), some (nv j), none]) (S := S) (S1 := S) (S2 := S)
      (xs := g.2.map nv) (by simp [hB, sheets_at j hat, sheet1, walkOf])
      (comp_all nv (fun p => encP (j, p)) g.2 fun p _ => ⟨[some B, some (.lst false acc), some (nv j), some (nv p)], by simp [wipe], by simp [encP, lim]⟩)
      (by rw [List.length_map]; exact len_lim (by omega))
    obtain ⟨y2, ih⟩ := pl_loop2 k n S B hB b' (j + 1) (acc ++ (g.2.map fun p => encP (j, p))) (some (nv j)) (fun i g' hi => by
      have := hj (i + 1) g' (by simpa using hi)
      rwa [show j + (i + 1) = j + 1 + i by omega] at this) (fun g hg => hv g (List.mem_cons_of_mem _ hg)) (by simp; omega)
    refine ⟨y2, ?_⟩
    have hz : acc.length + g.2.length ≤ lim := by omega
    have hr : (List.range (g :: b').length).map (j + ·) = j :: (List.range b'.length).map (j + 1 + ·) := by
      rw [List.length_cons, List.range_succ_eq_map, List.map_cons, List.map_map, Nat.add_zero]
      congr 1
      apply List.map_congr_left
      intro i _
      simp only [Function.comp_apply]
      omega
    rw [hr, List.map_cons, forLoop, bind_name]
    simp [hc, QE.bin, addV, asList, hz]
    simp only [plFrom, List.map_append, List.map_map, Function.comp_def]
    simpa [Function.comp_def] using ih
theorem lp (k : Nat) (S : Sto) {b : List G} (h : VB b) : callFn prog (k + 1) 25 [encB b] S = .ok (P0 b) S := by
  rw [run_fn (d := d__law_places) rfl rfl]
  obtain ⟨y2, hf⟩ := pl_loop2 k S.length S (encB b) rfl b 0 [] none (fun i g hi => by simpa using hi) h.each (by have := h.few; simp [lim]; omega)
  have hlen : ∀ S, callBi S .len [encB b] = some (.int b.length) := fun S => by simp [encB, callBi, lenOf, asSeq]
  have hx := x_for (c := cxt prog k S.length) (env := [some (encB b), some (.lst false []), none, none]) (S := S) (src := .rng1 (.bi .len [.var 0])) (xs := ((List.range b.length).map (0 + ·)).map nv) (S1 := S) (by
    simp [hlen]
    have := h.few
    exact rng_ok _ _ (by omega)) hf
  simp only [d__law_places, xs_cons, x_asg, ev_list, es_nil]
  simp [lim]
  simp at hx
  rw [hx]
  simp [P0, places]
theorem cu (k : Nat) (v : Val) (ns : List Int) (hl : ns.length ≤ 63) (hv : ∀ S, callBi S .list [v.settle] = some (.lst true (ns.map .int))) : ∃ a c : Int, 0 ≤ a ∧ callFn prog (k + 1) 21 [v] [] = .ok (.lst true [.int a, .int c]) [] := by
  obtain ⟨z, hz⟩ : ∃ z, ∀ S : Sto, item S (.lst true (ns.map .int ++ [.int 0])) (.int 0) = some (.int z) := by
    cases ns with
    | nil => exact ⟨0, fun S => by simp [item, asList, itemOf, atI, ixN]⟩
    | cons z ns => exact ⟨z, fun S => by
        have hp : (0 : Int) < (ns.length : Int) + 1 + 1 := by omega
        simp [item, asList, itemOf, atI, ixN, hp]⟩
  obtain ⟨n, hn, hab⟩ : ∃ n : Int, 0 ≤ n ∧ ∀ S : Sto, callBi S .abs [.int z] = some (.int n) := ⟨if z < 0 then -z else z, by split <;> omega, fun S => rfl⟩
  have hadd : ∀ S : Sto, QE.bin S .add (.lst false (ns.map .int)) (.lst true [.int 0]) = some (.lst true (ns.map .int ++ [.int 0])) := fun S => by
    have : ns.length + 1 ≤ lim := by simp only [lim]; omega
    simp [QE.bin, addV, asList, this]
  have hadd2 : ∀ S : Sto, QE.bin S .add (.lst true (ns.map .int)) (.lst true [.int 0]) = some (.lst true (ns.map .int ++ [.int 0])) := fun S => by
    have : ns.length + 1 ≤ lim := by simp only [lim]; omega
    simp [QE.bin, addV, asList, this]
  have sm1 : small 311 = true := by decide
  have e0 : ∀ S : Sto, QE.bin S .pow (.int 10) (.int 18) = some (.int (10 ^ 18)) := fun S => by simp [QE.bin, powV]
  have e1 : ∀ S : Sto, QE.bin S .mul (.int n) (.int 311) = some (.int (n * 311)) := fun S => by simp [QE.bin, mulV, sm1]
  have e2 : ∀ S : Sto, QE.bin S .add (.int (n * 311)) (.int 4001) = some (.int (n * 311 + 4001)) := fun S => rfl
  have e3 : ∀ S : Sto, QE.bin S .mod (.int (n * 311 + 4001)) (.int 2077502437) = some (.int ((n * 311 + 4001).fmod 2077502437)) := fun S => by simp [QE.bin, modV]
  have e4 : ∀ (x : Int) (S : Sto), QE.bin S .add (.int x) (.int 211) = some (.int (x + 211)) := fun x S => rfl
  have e5 : ∀ S : Sto, QE.bin S .fdiv (.int n) (.int 101) = some (.int (n.fdiv 101)) := fun S => by simp [QE.bin, fdivV]
  have e6 : ∀ S : Sto, QE.cmp S .ge (.int n) (.int (10 ^ 18)) = some (decide ((10 : Int) ^ 18 ≤ n)) := fun S => rfl
  have hint : ∀ (S : Sto) (x : Int), callBi S .int [.int x] = some (.int x) := fun S x => rfl
  by_cases hge : (10 : Int) ^ 18 ≤ n
  · refine ⟨n.fdiv 101, (n * 311 + 4001).fmod 2077502437 + 211, Int.fdiv_nonneg hn (by omega), ?_⟩
    rw [run_fn (d := d__law_cup) rfl rfl]
    rw [decide_eq_true hge] at e6
    simp only [d__law_cup, xs_cons, x_asg, ev_bi, es_cons, ev_idx, ev_bin, ev_list, es_nil, ev_lit, ev_var]
    simp [hv, hadd2, hz, hab, e0, e1, e2, e3, e4, e5, e6, hint, lim, -Int.reducePow]
    simp [finish]
  · refine ⟨0, (n * 311 + 4001).fmod 2077502437 + 211, by omega, ?_⟩
    rw [run_fn (d := d__law_cup) rfl rfl]
    rw [decide_eq_false hge] at e6
    simp only [d__law_cup, xs_cons, x_asg, ev_bi, es_cons, ev_idx, ev_bin, ev_list, es_nil, ev_lit, ev_var]
    simp [hv, hadd2, hz, hab, e0, e1, e2, e3, e4, e5, e6, hint, lim, -Int.reducePow]
    simp [finish]
end K01

set_option linter.all false
set_option maxRecDepth 10000
namespace K01
open QE
abbrev en (sv : Val) (t b p l m d s at' pg to lf wh od sh' pr' so' : Option Val) : Env := [some sv, some (.ref 0), t, b, p, l, m, d, s, at', pg, to, lf, wh, od, sh', pr', so', none, none, none]
theorem isn_true (S : Sto) : QE.cmp S .isn (.bl true) (.bl true) = some false := by exact id rfl
def lost2 (b : List G) : Int := (b.map fun g => 2 * (g.1 : Int)).sum
theorem lost_eq : ∀ (b : List G) (n : Nat), lost2 b - ((plFrom n b).length : Int) = lostI b
  | [], n => by simp [lost2, lostI, plFrom]
  | g :: b, n => by
    have ih := lost_eq b (n + 1)
    simp only [lost2, lostI, List.map_cons, List.sum_cons, plFrom, List.length_append, List.length_map] at ih ⊢
    push_cast
    omega
theorem len_P0 (b : List G) (S : Sto) : callBi S .len [P0 b] = some (nv (places b).length) := by simp [P0, callBi, lenOf, asSeq, asList, nv]
@[simp] theorem P0_st (b : List G) : (P0 b).settle = P0 b := by exact id rfl
def mates (b : List G) : List Val := (List.range (places b).length).map (mateV b)
theorem nice_P {l : List (Nat × Nat)} (h : l.length ≤ 1000) : nice 2 (.tup (l.map encP)) = true := by
  simp only [nice, Bool.and_eq_true, decide_eq_true_eq, List.length_map, List.all_eq_true, List.mem_map]
  refine ⟨h, ?_⟩
  rintro x ⟨p, _, rfl⟩
  simp [encP, nice, nv]
theorem nice_N {l : List Nat} (h : l.length ≤ 1000) : nice 1 (.tup (l.map nv)) = true := by
  simp only [nice, Bool.and_eq_true, decide_eq_true_eq, List.length_map, List.all_eq_true, List.mem_map]
  refine ⟨h, ?_⟩
  rintro x ⟨p, _, rfl⟩
  simp [nv, nice]
theorem nice_up : ∀ (d : Nat) (v : Val), nice d v = true → nice (d + 1) v = true := by
  intro d
  induction d with
  | zero => intro v h; cases v <;> simp_all [nice]
  | succ d ih =>
    intro v h
    cases v with
    | tup xs =>
      simp only [nice, Bool.and_eq_true, decide_eq_true_eq, List.all_eq_true] at h ⊢
      exact ⟨h.1, fun x hx => ih x (h.2 x hx)⟩
    | _ => simp_all [nice]
theorem nice_marks {b : List G} (h : VB b) : nice 3 (marksV b) = true := by
  have h1 := nice_P (l := pairs b) (by have := pairs_len h; omega)
  have h2 := nice_up 1 _ (nice_N (l := lones b) (by have := lones_len h; have := places_len h; omega))
  show (decide (2 ≤ 1000) && [Val.tup ((pairs b).map encP), Val.tup ((lones b).map nv)].all (nice 2)) = true
  simp [h1, h2]
section
variable (k n : Nat) (S : Sto) {b : List G} (h : VB b) (sv : Val) (x2 x5 x6 x7 x8 x9 x10 x11 x12 x13 x14 x15 x16 x17 : Option Val)
include h
theorem s3 : execS (cxt prog (k + 9) n) (.asg (.name 5) (.bin .sub (.bi .sum [.comp [15, 16] (.tup [.name 15, .name 16]) (.it (.var 3)) [] (.bin .mul (.lit (.int 2)) (.var 15))]) (.bi .len [.var 4])))
    (en sv x2 (some (encB b)) (some (P0 b)) x5 x6 x7 x8 x9 x10 x11 x12 x13 x14 x15 x16 x17) S = .ok (.nx, en sv x2 (some (encB b)) (some (P0 b)) (some (.int (lostI b))) x6 x7 x8 x9 x10 x11 x12 x13 x14 x15 x16 x17) S := by
  have hc := ev_comp (c := cxt prog (k + 9) n) (own := [15, 16]) (tg := .tup [.name 15, .name 16]) (src := .it (.var 3)) (ifs := []) (elt := .bin .mul (.lit (.int 2)) (.var 15)) (env := en sv x2 (some (encB b)) (some (P0 b)) x5 x6 x7 x8 x9 x10 x11 x12 x13 x14 x15 x16 x17) (S := S) (S1 := S) (S2 := S)
    (xs := b.map encG) (by simp [encB, walkOf])
    (comp_all encG (fun g => .int (2 * (g.1 : Int))) b fun g _ => ⟨en sv x2 (some (encB b)) (some (P0 b)) x5 x6 x7 x8 x9 x10 x11 x12 x13 x14 (some (nv g.1)) (some (.tup (g.2.map nv))) x17, by simp [wipe, encG], by
      simp [QE.bin, mulV, nv, sm2]⟩)
    (by rw [List.length_map]; have := h.few; exact len_lim (by omega))
  have hsum : callBi S .sum [.lst false (b.map fun g => Val.int (2 * (g.1 : Int)))] = some (.int (lost2 b)) := by
    simp only [callBi, intsV, asList, ints_map, lost2]
  have hsub : QE.bin S .sub (.int (lost2 b)) (nv (places b).length) = some (.int (lostI b)) := by
    simp only [QE.bin, subV, nv, ← lost_eq b 0]
    rfl
  simp [hc, hsum, len_P0, hsub]
theorem s4 : execS (cxt prog (k + 9) n) (.if_ (.or [.cmp .isn (.call 12 [.var 3]) (.lit (.bl true)), .not (.call 23 [.tup [.call 13 [.var 3], .call 14 [.var 3]], .tup [.bi .len [.var 4], .var 5]])]) [.ret (.lit (.bl false))] [])
    (en sv x2 (some (encB b)) (some (P0 b)) (some (.int (lostI b))) x6 x7 x8 x9 x10 x11 x12 x13 x14 x15 x16 x17) S = .ok (.nx, en sv x2 (some (encB b)) (some (P0 b)) (some (.int (lostI b))) x6 x7 x8 x9 x10 x11 x12 x13 x14 x15 x16 x17) S := by
  have hs := same 1 (k + 7) (.tup [nv (places b).length, .int (lostI b)]) S (by simp [nice, nv])
  simp [ibV (k + 4) S h, isn_true, lm (k + 3) S h, lo (k + 3) S h, len_P0, lim, hs]
theorem s5 : execS (cxt prog (k + 9) n) (.asg (.name 6) (.comp [12] (.name 12) (.rng1 (.bi .len [.var 4])) [] (.call 26 [.var 3, .var 4, .var 12])))
    (en sv x2 (some (encB b)) (some (P0 b)) x5 x6 x7 x8 x9 x10 x11 x12 x13 x14 x15 x16 x17) S = .ok (.nx, en sv x2 (some (encB b)) (some (P0 b)) x5 (some (.lst false (mates b))) x7 x8 x9 x10 x11 x12 x13 x14 x15 x16 x17) S := by
  have hl := places_len h
  have hs : evalSrc (cxt prog (k + 9) n) (.rng1 (.bi .len [.var 4])) (en sv x2 (some (encB b)) (some (P0 b)) x5 x6 x7 x8 x9 x10 x11 x12 x13 x14 x15 x16 x17) S = .ok ((List.range (places b).length).map nv) S := by
    simp [len_P0, bind_int]
    exact rng_ok _ _ (by omega)
  have hc := ev_comp (c := cxt prog (k + 9) n) (own := [12]) (tg := .name 12) (ifs := []) (elt := .call 26 [.var 3, .var 4, .var 12]) hs
    (comp_all nv (mateV b) _ fun i hi => ⟨en sv x2 (some (encB b)) (some (P0 b)) x5 x6 x7 x8 x9 x10 x11 (some (nv i)) x13 x14 x15 x16 x17, by simp [wipe], by
      have hi := List.mem_range.mp hi
      simp [lmate (k + 8) S h i hi]⟩)
    (by rw [List.length_map, List.length_range]; exact len_lim hl)
  simp [hc, mates]
end
end K01

set_option linter.all false
set_option maxRecDepth 10000
namespace K01
open QE
theorem enum_range (f : Nat → Val) : ∀ (n m : Nat), enumFrom m ((List.range n).map fun i => f (m + i)) = (List.range n).map fun i => .tup [nv (m + i), f (m + i)]
  | 0, m => rfl
  | n + 1, m => by
    have ih := enum_range f n (m + 1)
    rw [List.range_succ_eq_map]
    simp only [List.map_cons, List.map_map, enumFrom, Nat.add_zero]
    congr 1
    rw [show ((fun i => f (m + i)) ∘ Nat.succ) = fun i => f (m + 1 + i) from by
      funext i
      show f (m + (i + 1)) = f (m + 1 + i)
      rw [show m + (i + 1) = m + 1 + i by omega], ih]
    apply List.map_congr_left
    intro i _
    simp only [Function.comp_apply]
    rw [show m + 1 + i = m + i.succ by omega]
theorem enum_mates (b : List G) : enumFrom 0 (mates b) = (List.range (places b).length).map fun i => .tup [nv i, mateV b i] := by
  have := enum_range (mateV b) (places b).length 0
  simpa [mates] using this
theorem filterMap_ite {α β : Type} (p : α → Prop) [DecidablePred p] (f : α → β) : ∀ l : List α, (l.filterMap fun i => if p i then some (f i) else none) = (l.filter fun i => decide (p i)).map f
  | [] => rfl
  | x :: l => by
    by_cases h : p x <;> simp [h, filterMap_ite p f l]
section
variable (k n : Nat) (S : Sto) {b : List G} (h : VB b) (sv : Val) (x2 x5 x6 x7 x8 x9 x10 x11 x12 x13 x14 x15 x16 x17 : Option Val)
include h
theorem s6 : execS (cxt prog (k + 9) n) (.asg (.name 7) (.tup [.bi .tuple [.comp [12, 19] (.tup [.name 12, .name 19]) (.enum (.var 6)) [.and [.cmp .isn (.var 19) (.lit .non), .cmp .gt (.var 19) (.var 12)]] (.tup [.var 12, .var 19])],
      .bi .tuple [.comp [12, 19] (.tup [.name 12, .name 19]) (.enum (.var 6)) [.cmp .is_ (.var 19) (.lit .non)] (.var 12)]]))
    (en sv x2 (some (encB b)) (some (P0 b)) x5 (some (.lst false (mates b))) x7 x8 x9 x10 x11 x12 x13 x14 x15 x16 x17) S = .ok (.nx, en sv x2 (some (encB b)) (some (P0 b)) x5 (some (.lst false (mates b))) (some (marksV b)) x8 x9 x10 x11 x12 x13 x14 x15 x16 x17) S := by
  have hl := places_len h
  have hsrc : evalSrc (cxt prog (k + 9) n) (.enum (.var 6)) (en sv x2 (some (encB b)) (some (P0 b)) x5 (some (.lst false (mates b))) x7 x8 x9 x10 x11 x12 x13 x14 x15 x16 x17) S = .ok ((List.range (places b).length).map fun i => .tup [nv i, mateV b i]) S := by
    simp [seqOf, enum_mates]
  have hisn : ∀ i, QE.cmp S .isn (mateV b i) .non = some (decide (has b i)) := fun i => by
    unfold mateV
    split <;> simp [*, QE.cmp, isVal, nt, nv]
  have his : ∀ i, QE.cmp S .is_ (mateV b i) .non = some (decide (¬ has b i)) := fun i => by
    unfold mateV
    split <;> simp [*, QE.cmp, isVal, nv]
  have hgt : ∀ i, has b i → QE.cmp S .gt (mateV b i) (nv i) = some (decide (i < mi b i)) := fun i hi => by
    simp [mateV, hi, QE.cmp, gtVal, nv]
  have hc1 := ev_comp (c := cxt prog (k + 9) n) (own := [12, 19]) (tg := .tup [.name 12, .name 19]) (ifs := [.and [.cmp .isn (.var 19) (.lit .non), .cmp .gt (.var 19) (.var 12)]]) (elt := .tup [.var 12, .var 19]) hsrc
    (comp_run (fun i => .tup [nv i, mateV b i]) (fun i => decide (has b i ∧ i < mi b i)) (fun i => .tup [nv i, mateV b i]) _ fun i _ => ⟨[some sv, some (.ref 0), x2, some (encB b), some (P0 b), x5, some (.lst false (mates b)), x7, x8, x9, x10, x11, some (nv i), x13, x14, x15, x16, x17, none, some (mateV b i), none], by simp [wipe], by
      by_cases hi : has b i
      · simp [hisn, hi, hgt i hi]
      · simp [hisn, hi], fun _ => by simp [lim]⟩)
    (by rw [List.length_map]; exact Nat.le_trans (List.length_filter_le _ _) (by rw [List.length_range]; exact len_lim hl))
  have hc2 := ev_comp (c := cxt prog (k + 9) n) (own := [12, 19]) (tg := .tup [.name 12, .name 19]) (ifs := [.cmp .is_ (.var 19) (.lit .non)]) (elt := .var 12) hsrc
    (comp_run (fun i => .tup [nv i, mateV b i]) (fun i => decide (¬ has b i)) nv _ fun i _ => ⟨[some sv, some (.ref 0), x2, some (encB b), some (P0 b), x5, some (.lst false (mates b)), x7, x8, x9, x10, x11, some (nv i), x13, x14, x15, x16, x17, none, some (mateV b i), none], by simp [wipe], by
      simp only [ea_cons, ea_nil, ev_cmp, ev_var, ev_lit, List.getElem?_cons_succ, List.getElem?_cons_zero, QE.R.bind_okS, his, QE.R.of_some, bl_ok]
      by_cases hi : has b i <;> simp [hi], fun _ => by simp⟩)
    (by rw [List.length_map]; exact Nat.le_trans (List.length_filter_le _ _) (by rw [List.length_range]; exact len_lim hl))
  have e1 : ((List.range (places b).length).filter fun i => decide (has b i ∧ i < mi b i)).map (fun i => (Val.tup [nv i, mateV b i]).settle) = (pairs b).map encP := by
    rw [pairs_eq h, filterMap_ite, List.map_map]
    apply List.map_congr_left
    intro i hi
    have := (List.mem_filter.mp hi).2
    simp at this
    simp [encP, mateV, this.1]
  have e2 : ((List.range (places b).length).filter fun i => decide (¬ has b i)).map (fun i => (nv i).settle) = (lones b).map nv := by
    rw [lones_eq h]
    rfl
  rw [e1] at hc1
  rw [e2] at hc2
  simp [hc1, hc2, callBi, tupleOf, asSeq, asList, lim, marksV]
theorem s7 : execS (cxt prog (k + 9) n) (.if_ (.or [.not (.call 23 [.call 17 [.var 3], .var 7]), .and [.cmp .lt (.bi .len [.var 4]) (.lit (.int 41)), .cmp .isn (.call 20 [.var 3, .var 7]) (.lit (.bl true))]]) [.ret (.lit (.bl false))] [])
    (en sv x2 (some (encB b)) (some (P0 b)) x5 x6 (some (marksV b)) x8 x9 x10 x11 x12 x13 x14 x15 x16 x17) S = .ok (.nx, en sv x2 (some (encB b)) (some (P0 b)) x5 x6 (some (marksV b)) x8 x9 x10 x11 x12 x13 x14 x15 x16 x17) S := by
  have hs := same 3 (k + 5) (marksV b) S (nice_marks h)
  have hm := mk (k + 3) S h
  have hlt : QE.cmp S .lt (nv (places b).length) (.int 41) = some (decide ((places b).length < 41)) := by
    simp only [QE.cmp, ltVal, nv, Option.some.injEq]
    rw [Bool.eq_iff_iff]; simp; omega
  change callFn prog (k + 9) 17 [encB b] S = .ok (marksV b) S at hm
  by_cases hf : (places b).length < 41
  · simp [hm, hs, len_P0, hlt, hf, df (k + 3) S h hf, isn_true]
  · simp [hm, hs, len_P0, hlt, hf]
end
/-! ### the sides of all pages -/
def ky (q : Nat × Nat) : Val := .tup [nv q.1, nv (q.2 / 2 + 1), nv (q.2 % 2)]
def vl (q : Nat × Nat) : Val := if (q.2 + 1) / 2 % 2 = 0 then sH else sF
theorem ky_eq (p q : Nat × Nat) : keyEq (ky p) (ky q) = decide (p = q) := by
  obtain ⟨a, c⟩ := p; obtain ⟨d, e⟩ := q
  simp only [ky, nv, keyEq, flatEqL, flatEq, Bool.and_true]
  rw [Bool.eq_iff_iff]
  simp
  omega
def kvF (l : List (Nat × Nat)) : List (Val × Val) := l.map fun q => (ky q, vl q)
theorem kv_has (q : Nat × Nat) : ∀ l : List (Nat × Nat), dHas (ky q) (kvF l) = decide (q ∈ l)
  | [] => rfl
  | p :: l => by
    have ih := kv_has q l
    simp only [kvF] at ih
    simp only [kvF, List.map_cons, dHas, ky_eq, ih, List.mem_cons, Bool.decide_or]
    congr 1
    rw [Bool.eq_iff_iff]
    simp [eq_comm]
theorem kv_get (q : Nat × Nat) : ∀ l : List (Nat × Nat), q ∈ l → dGet (ky q) (kvF l) = some (vl q)
  | [], h => by cases h
  | p :: l, h => by
    have ih := kv_get q l
    simp only [kvF] at ih
    simp only [kvF, List.map_cons, dGet, ky_eq]
    by_cases e : p = q
    · subst e; simp
    · simp only [e, decide_false, Bool.false_eq_true, if_false]
      rcases List.mem_cons.mp h with h | h
      · exact absurd h.symm e
      · exact ih h
theorem kv_put {q : Nat × Nat} {l : List (Nat × Nat)} (h : q ∉ l) : dPut (ky q) (vl q) (kvF l) = kvF (l ++ [q]) := by
  have hh := kv_has q l
  rw [decide_eq_false h] at hh
  unfold dPut
  rw [hh]
  simp [kvF]
theorem ky_key (q : Nat × Nat) : (ky q).isKey true = true := by simp [ky, nv, Val.isKey, Val.flatKey]
end K01

set_option linter.all false
set_option maxRecDepth 10000
namespace K01
open QE
abbrev put9 : Stm := .setIx (.var 8) (.tup [.var 9, .bin .add (.bin .fdiv (.var 10) (.lit (.int 2))) (.lit (.int 1)), .bin .mod (.var 10) (.lit (.int 2))]) (.ite (.cmp .eq (.bin .mod (.bin .fdiv (.bin .add (.var 10) (.lit (.int 1))) (.lit (.int 2))) (.lit (.int 2))) (.lit (.int 0))) (.lit (.str [104])) (.lit (.str [102])))
theorem div2 (S : Sto) (x : Nat) : QE.bin S .fdiv (nv x) (.int 2) = some (nv (x / 2)) := by
  simp only [QE.bin, fdivV, nv]
  rw [if_pos (by omega)]
  congr 2
  rw [Int.fdiv_eq_ediv_of_nonneg _ (by omega)]
  omega
theorem mod2 (S : Sto) (x : Nat) : QE.bin S .mod (nv x) (.int 2) = some (nv (x % 2)) := by
  simp only [QE.bin, modV, nv]
  rw [if_pos (by omega)]
  congr 2
  rw [Int.fmod_eq_emod_of_nonneg _ (by omega)]
  omega
theorem eq0 (S : Sto) (x : Nat) : QE.cmp S .eq (nv x) (.int 0) = some (decide (x = 0)) := by
  have := eq_nv S x 0
  simpa [nv] using this
section
variable (k n : Nat) (S : Sto) {b : List G} (h : VB b) (hn : n ≤ S.length) (sv : Val) (x2 x4 x5 x6 x7 x11 x12 x13 x14 x15 x16 x17 : Option Val)
include hn
theorem pages (i : Nat) : ∀ (ps : List Nat) (l : List (Nat × Nat)) (x10 : Option Val), ps.Nodup → (∀ p ∈ ps, (i, p) ∉ l) → l.length + ps.length ≤ 1000 → ∃ y10,
    forLoop (.name 10) (execSs (cxt prog k n) [put9]) (ps.map nv) (en sv x2 (some (encB b)) x4 x5 x6 x7 (some (.ref S.length)) (some (nv i)) x10 x11 x12 x13 x14 x15 x16 x17) (S ++ [.dic true (kvF l)])
      = .ok (.nx, en sv x2 (some (encB b)) x4 x5 x6 x7 (some (.ref S.length)) (some (nv i)) y10 x11 x12 x13 x14 x15 x16 x17) (S ++ [.dic true (kvF (l ++ ps.map fun p => (i, p)))])
  | [], l, x10, _, _, _ => ⟨x10, by simp [forLoop]⟩
  | p :: ps, l, x10, hnd, hl, hlen => by
    rw [List.nodup_cons] at hnd
    simp only [List.length_cons] at hlen
    obtain ⟨y10, ih⟩ := pages i ps (l ++ [(i, p)]) (some (nv p)) hnd.2 (fun q hq z => by
      rcases List.mem_append.mp z with z | z
      · exact hl q (List.mem_cons_of_mem _ hq) z
      · simp at z; subst z; exact hnd.1 hq) (by simp; omega)
    refine ⟨y10, ?_⟩
    have hv : ∀ S' : Sto, QE.setIx n (S ++ [.dic true (kvF l)]) (.ref S.length) (.tup [nv i, nv (p / 2 + 1), nv (p % 2)]) (vl (i, p)) = .ok () (S ++ [.dic true (kvF (l ++ [(i, p)]))]) := fun _ => by
      have hk := ky_key (i, p)
      have hlt : (kvF l).length < lim := by simp only [kvF, List.length_map, lim]; omega
      have hp := kv_put (hl p (by simp))
      have hst : (vl (i, p)).settle = vl (i, p) := by unfold vl; split <;> rfl
      show QE.setIx n (S ++ [.dic true (kvF l)]) (.ref S.length) (ky (i, p)) (vl (i, p)) = _
      simp only [QE.setIx, List.getElem?_concat_length, hk, hst, mayPut, hn, hlt, decide_true, Bool.true_or, Bool.and_self, if_true, hp, set_last]
    have hit : (if (p + 1) / 2 % 2 = 0 then Val.str [104] else Val.str [102]) = vl (i, p) := rfl
    rw [List.map_cons, forLoop, bind_name]
    rw [show (p :: ps).map (fun p => (i, p)) = [(i, p)] ++ ps.map (fun p => (i, p)) by rfl, ← List.append_assoc, ← ih]
    by_cases hp : (p + 1) / 2 % 2 = 0
    · rw [if_pos hp] at hit
      simp [nv_add, div2, mod2, eq0, hp, lim, hit, hv S]
    · rw [if_neg hp] at hit
      simp [nv_add, div2, mod2, eq0, hp, lim, hit, hv S]
end
end K01

set_option linter.all false
set_option maxRecDepth 10000
namespace K01
open QE
def qs : Nat → List G → List (Nat × Nat)
  | _, [] => []
  | j, g :: b => ((List.range (4 * g.1)).map fun p => (j, p)) ++ qs (j + 1) b
theorem mem_qs {q : Nat × Nat} : ∀ {b : List G} {n : Nat}, (∃ j g, b[j]? = some g ∧ q.1 = n + j ∧ q.2 < 4 * g.1) → q ∈ qs n b
  | [], n, h => by obtain ⟨j, g, h1, _⟩ := h; simp at h1
  | g :: b, n, h => by
    rw [qs, List.mem_append]
    obtain ⟨j, g', h1, h2, h3⟩ := h
    cases j with
    | zero =>
      simp at h1
      subst h1
      exact .inl (List.mem_map.mpr ⟨q.2, List.mem_range.mpr h3, by ext <;> simp [h2]⟩)
    | succ j => exact .inr (mem_qs ⟨j, g', by simpa using h1, by omega, h3⟩)
abbrev for9 : Stm := .for_ (.name 10) (.rng1 (.bin .mul (.lit (.int 4)) (.idx (.idx (.var 3) (.var 9)) (.lit (.int 0))))) [put9]
theorem len_encB (b : List G) (S : Sto) : callBi S .len [encB b] = some (.int b.length) := by simp [encB, callBi, lenOf, asSeq]
section
variable (k n : Nat) (S : Sto) {b : List G} (h : VB b) (hn : n ≤ S.length) (sv : Val) (x2 x4 x5 x6 x7 x8 x11 x12 x13 x14 x15 x16 x17 : Option Val)
include h hn
theorem gathers : ∀ (b' : List G) (j : Nat) (l : List (Nat × Nat)) (x9 x10 : Option Val), (∀ i g, b'[i]? = some g → b[j + i]? = some g) → (∀ q ∈ l, q.1 < j) → l.length + 32 * b'.length ≤ 1000 → ∃ y9 y10,
    forLoop (.name 9) (execSs (cxt prog k n) [for9]) (((List.range b'.length).map (j + ·)).map nv) (en sv x2 (some (encB b)) x4 x5 x6 x7 (some (.ref S.length)) x9 x10 x11 x12 x13 x14 x15 x16 x17) (S ++ [.dic true (kvF l)])
      = .ok (.nx, en sv x2 (some (encB b)) x4 x5 x6 x7 (some (.ref S.length)) y9 y10 x11 x12 x13 x14 x15 x16 x17) (S ++ [.dic true (kvF (l ++ qs j b'))])
  | [], j, l, x9, x10, _, _, _ => ⟨x9, x10, by simp [forLoop, qs]⟩
  | g :: b', j, l, x9, x10, hj, hl, hlen => by
    have hat := hj 0 g rfl
    rw [Nat.add_zero] at hat
    have vg := h.get hat
    have hlo := vg.lo; have hhi := vg.hi
    simp only [List.length_cons] at hlen
    obtain ⟨y10, hp⟩ := pages k n S hn sv x2 x4 x5 x6 x7 x11 x12 x13 x14 x15 x16 x17 (b := b) j (List.range (4 * g.1)) l x10 List.nodup_range (fun p _ z => by have := hl _ z; simp at this) (by simp; omega)
    have hmul : ∀ S' : Sto, QE.bin S' .mul (.int 4) (nv g.1) = some (.int ((4 * g.1 : Nat) : Int)) := fun S' => by
      have : small 4 = true := by decide
      simp [QE.bin, mulV, nv, this]
    have hx := x_for (c := cxt prog k n) (env := en sv x2 (some (encB b)) x4 x5 x6 x7 (some (.ref S.length)) (some (nv j)) x10 x11 x12 x13 x14 x15 x16 x17) (S := S ++ [.dic true (kvF l)]) (src := .rng1 (.bin .mul (.lit (.int 4)) (.idx (.idx (.var 3) (.var 9)) (.lit (.int 0))))) (xs := (List.range (4 * g.1)).map nv) (S1 := S ++ [.dic true (kvF l)]) (by
      simp only [sr_1, ev_bin, ev_lit, ev_idx, ev_var, List.getElem?_cons_succ, List.getElem?_cons_zero, R.bind_okS, sheets_at j hat, sheet0, R.of_some, hmul, int_ok]
      exact rng_ok _ _ (by omega)) hp
    obtain ⟨y9, y10', ih⟩ := gathers b' (j + 1) (l ++ (List.range (4 * g.1)).map fun p => (j, p)) (some (nv j)) y10 (fun i g' hi => by
      have := hj (i + 1) g' (by simpa using hi)
      rwa [show j + (i + 1) = j + 1 + i by omega] at this) (fun q hq => by
      rcases List.mem_append.mp hq with hq | hq
      · have := hl q hq; omega
      · obtain ⟨p, _, rfl⟩ := List.mem_map.mp hq; simp) (by simp; omega)
    refine ⟨y9, y10', ?_⟩
    have hr : (List.range (g :: b').length).map (j + ·) = j :: (List.range b'.length).map (j + 1 + ·) := by
      rw [List.length_cons, List.range_succ_eq_map, List.map_cons, List.map_map, Nat.add_zero]
      congr 1
      apply List.map_congr_left
      intro i _
      simp only [Function.comp_apply]
      omega
    rw [hr, List.map_cons, forLoop, bind_name, qs, ← List.append_assoc, ← ih]
    simp only [nv_st, en, List.set_cons_succ, List.set_cons_zero]
    simp only [xs_cons, hx, R.bind_okS, xs_nil]
theorem s9 (x9 x10 : Option Val) : ∃ y9 y10, execS (cxt prog k n) (.for_ (.name 9) (.rng1 (.bi .len [.var 3])) [for9]) (en sv x2 (some (encB b)) x4 x5 x6 x7 (some (.ref S.length)) x9 x10 x11 x12 x13 x14 x15 x16 x17) (S ++ [.dic true []])
      = .ok (.nx, en sv x2 (some (encB b)) x4 x5 x6 x7 (some (.ref S.length)) y9 y10 x11 x12 x13 x14 x15 x16 x17) (S ++ [.dic true (kvF (qs 0 b))]) := by
  have hf := h.few
  obtain ⟨y9, y10, hg⟩ := gathers k n S h hn sv x2 x4 x5 x6 x7 x11 x12 x13 x14 x15 x16 x17 b 0 [] x9 x10 (fun i g hi => by simpa using hi) (by simp) (by simp; omega)
  refine ⟨y9, y10, ?_⟩
  refine x_for (xs := ((List.range b.length).map (0 + ·)).map nv) (S1 := S ++ [.dic true []]) ?_ hg
  simp only [sr_1, ev_bi, es_cons, es_nil, ev_var, List.getElem?_cons_succ, List.getElem?_cons_zero, R.bind_okS, encB_st, len_encB, R.of_some, int_ok]
  rw [show (List.range b.length).map (0 + ·) = List.range b.length by simp]
  exact rng_ok _ _ (by omega)
end
theorem SL_eq (b : List G) : (places b).map (fun q => encS q.2) = SL b := by
  apply List.ext_getElem?
  intro i
  by_cases hi : i < (places b).length
  · simp [SL, hi]
    simp [pq, hi]
  · simp [SL, hi, Nat.not_lt.mp hi]
theorem key0 (i k : Nat) (hk : 1 ≤ k) : (Val.tup [nv i, nv k, .int 0]) = ky (i, 2 * (k - 1)) := by
  simp only [ky, nv, Val.tup.injEq, List.cons.injEq, Val.int.injEq, and_true, true_and]
  omega
theorem key1 (i k : Nat) (hk : 1 ≤ k) : (Val.tup [nv i, nv k, .int 1]) = ky (i, 2 * (k - 1) + 1) := by
  simp only [ky, nv, Val.tup.injEq, List.cons.injEq, Val.int.injEq, and_true, true_and]
  omega
section
variable (k n : Nat) (S : Sto) {b : List G} (h : VB b) (sv : Val) (x2 x5 x6 x7 x9 x10 x11 x12 x13 x14 x15 x16 x17 : Option Val)
include h
theorem s10 : execS (cxt prog k n) (.asg (.name 11) (.comp [9, 18] (.tup [.name 9, .name 18]) (.it (.var 4)) [] (.tup [.idx (.var 8) (.tup [.var 9, .var 18, .lit (.int 0)]), .idx (.var 8) (.tup [.var 9, .var 18, .lit (.int 1)])])))
    (en sv x2 (some (encB b)) (some (P0 b)) x5 x6 x7 (some (.ref S.length)) x9 x10 x11 x12 x13 x14 x15 x16 x17) (S ++ [.dic true (kvF (qs 0 b))])
    = .ok (.nx, en sv x2 (some (encB b)) (some (P0 b)) x5 x6 x7 (some (.ref S.length)) x9 x10 (some (.lst false (SL b))) x12 x13 x14 x15 x16 x17) (S ++ [.dic true (kvF (qs 0 b))]) := by
  have hl := places_len h
  have hitem : ∀ q ∈ qs 0 b, item (S ++ [.dic true (kvF (qs 0 b))]) (.ref S.length) (ky q) = some (vl q) := fun q hq => by
    simp only [item, asList, asDic, List.getElem?_concat_length, itemDic, ky_key, if_true]
    exact kv_get q _ hq
  have hc := ev_comp (c := cxt prog k n) (own := [9, 18]) (tg := .tup [.name 9, .name 18]) (src := .it (.var 4)) (ifs := []) (elt := .tup [.idx (.var 8) (.tup [.var 9, .var 18, .lit (.int 0)]), .idx (.var 8) (.tup [.var 9, .var 18, .lit (.int 1)])]) (env := en sv x2 (some (encB b)) (some (P0 b)) x5 x6 x7 (some (.ref S.length)) x9 x10 x11 x12 x13 x14 x15 x16 x17) (S := S ++ [.dic true (kvF (qs 0 b))]) (S1 := S ++ [.dic true (kvF (qs 0 b))]) (S2 := S ++ [.dic true (kvF (qs 0 b))])
    (xs := (places b).map encP) (by simp [P0, walkOf])
    (comp_all encP (fun q => encS q.2) (places b) fun q hq => ⟨[some sv, some (.ref 0), x2, some (encB b), some (P0 b), x5, x6, x7, some (.ref S.length), some (nv q.1), x10, x11, x12, x13, x14, x15, x16, x17, some (nv q.2), none, none], by simp [wipe, encP], by
      obtain ⟨g, hg, vg, hsh, h1, h2⟩ := place_ok h hq
      have m0 := hitem (q.1, 2 * (q.2 - 1)) (mem_qs ⟨q.1, g, hg, by simp, by simp; omega⟩)
      have m1 := hitem (q.1, 2 * (q.2 - 1) + 1) (mem_qs ⟨q.1, g, hg, by simp, by simp; omega⟩)
      rw [← key0 q.1 q.2 h1] at m0
      rw [← key1 q.1 q.2 h1] at m1
      have v0 : vl (q.1, 2 * (q.2 - 1)) = if q.2 % 2 = 1 then sH else sF := by
        unfold vl
        by_cases hp : q.2 % 2 = 1
        · rw [if_pos hp, if_pos (by simp; omega)]
        · rw [if_neg hp, if_neg (by simp; omega)]
      have v1 : vl (q.1, 2 * (q.2 - 1) + 1) = if q.2 % 2 = 1 then sF else sH := by
        unfold vl
        by_cases hp : q.2 % 2 = 1
        · rw [if_pos hp, if_neg (by simp; omega)]
        · rw [if_neg hp, if_pos (by simp; omega)]
      rw [v0] at m0
      rw [v1] at m1
      have st0 : (if q.2 % 2 = 1 then sH else sF).settle = if q.2 % 2 = 1 then sH else sF := by split <;> rfl
      have st1 : (if q.2 % 2 = 1 then sF else sH).settle = if q.2 % 2 = 1 then sF else sH := by split <;> rfl
      simp [m0, m1, lim, st0, st1, encS]⟩)
    (by rw [List.length_map]; exact len_lim hl)
  rw [show (places b).map (fun q => (encS q.2).settle) = SL b from SL_eq b] at hc
  simp [hc]
end
end K01

set_option linter.all false
set_option maxRecDepth 10000
namespace K01
open QE
theorem nice_mate (b : List G) (i : Nat) : nice 1 (mateV b i) = true := by unfold mateV; split <;> rfl
theorem nice_S (n : Nat) : nice 1 (encS n) = true := by
  unfold encS sH sF
  by_cases h : n % 2 = 1 <;> simp [h, nice]
theorem mates_at {b : List G} {i : Nat} (hi : i < (places b).length) (S : Sto) : item S (.lst false (mates b)) (nv i) = some (mateV b i) := by
  simp [mates, nv, item, asList, itemOf, atI, ixN, hi]
section
variable (k n : Nat) (S : Sto) {b : List G} (h : VB b) (sv : Val) (x2 x5 x6 x7 x8 x9 x10 x11 x13 x14 x15 x16 x17 : Option Val)
include h
abbrev if11 : Stm := .if_ (.not (.call 23 [.tup [.call 15 [.var 3, .var 12], .call 16 [.var 3, .var 12], .call 18 [.var 3, .var 12]], .tup [.idx (.var 4) (.var 12), .idx (.var 6) (.var 12), .idx (.var 11) (.var 12)]])) [.ret (.lit (.bl false))] []
theorem leaves : ∀ (is : List Nat) (x12 : Option Val), (∀ i ∈ is, i < (places b).length) → ∃ y12,
    forLoop (.name 12) (execSs (cxt prog (k + 9) n) [if11]) (is.map nv) (en sv x2 (some (encB b)) (some (P0 b)) x5 (some (.lst false (mates b))) x7 x8 x9 x10 (some (.lst false (SL b))) x12 x13 x14 x15 x16 x17) S
      = .ok (.nx, en sv x2 (some (encB b)) (some (P0 b)) x5 (some (.lst false (mates b))) x7 x8 x9 x10 (some (.lst false (SL b))) y12 x13 x14 x15 x16 x17) S
  | [], x12, _ => ⟨x12, by simp [forLoop]⟩
  | i :: is, x12, hi => by
    have h0 := hi i (by simp)
    obtain ⟨y12, ih⟩ := leaves is (some (nv i)) fun j hj => hi j (List.mem_cons_of_mem _ hj)
    refine ⟨y12, ?_⟩
    have hs := same 2 (k + 6) (.tup [encP (pq b i), mateV b i, encS (pq b i).2]) S (by
      have h1 := nice_mate b i
      have h2 := nice_S (pq b i).2
      have h3 : nice 1 (encP (pq b i)) = true := by simp [encP, nice, nv]
      show (decide (3 ≤ 1000) && [encP (pq b i), mateV b i, encS (pq b i).2].all (nice 1)) = true
      simp [h1, h2, h3])
    have hP : item S (P0 b) (nv i) = some (encP (pq b i)) := place_at i S false (pq_get h0)
    have est : (encS (pq b i).2).settle = encS (pq b i).2 := by exact id rfl
    rw [List.map_cons, forLoop, bind_name, ← ih]
    simp [po (k + 3) S h i (pq_get h0), ma (k + 3) S h i h0, so (k + 3) S h i (pq_get h0), hP, mates_at h0, SL_at h0, est, lim, hs]
theorem s11 (x12 : Option Val) : ∃ y12, execS (cxt prog (k + 9) n) (.for_ (.name 12) (.rng1 (.bi .len [.var 4])) [if11]) (en sv x2 (some (encB b)) (some (P0 b)) x5 (some (.lst false (mates b))) x7 x8 x9 x10 (some (.lst false (SL b))) x12 x13 x14 x15 x16 x17) S
    = .ok (.nx, en sv x2 (some (encB b)) (some (P0 b)) x5 (some (.lst false (mates b))) x7 x8 x9 x10 (some (.lst false (SL b))) y12 x13 x14 x15 x16 x17) S := by
  have hl := places_len h
  obtain ⟨y12, hf⟩ := leaves k n S h sv x2 x5 x7 x8 x9 x10 x13 x14 x15 x16 x17 (List.range (places b).length) x12 fun i hi => List.mem_range.mp hi
  refine ⟨y12, x_for (xs := (List.range (places b).length).map nv) (S1 := S) ?_ hf⟩
  simp only [sr_1, ev_bi, es_cons, es_nil, ev_var, List.getElem?_cons_succ, List.getElem?_cons_zero, R.bind_okS, P0_st, len_P0, R.of_some, bind_int]
  exact rng_ok _ _ (by omega)
theorem s12 (x12 : Option Val) : execS (cxt prog (k + 9) n) (.if_ (.not (.call 23 [.call 19 [.var 3], .bi .tuple [.comp [12] (.name 12) (.rng1 (.bin .sub (.bi .len [.var 11]) (.lit (.int 1)))) [.cmp .ne (.idx (.idx (.var 11) (.var 12)) (.lit (.int 1))) (.idx (.idx (.var 11) (.bin .add (.var 12) (.lit (.int 1)))) (.lit (.int 0)))] (.var 12)]])) [.ret (.lit (.bl false))] [])
    (en sv x2 (some (encB b)) (some (P0 b)) x5 x6 x7 x8 x9 x10 (some (.lst false (SL b))) x12 x13 x14 x15 x16 x17) S = .ok (.nx, en sv x2 (some (encB b)) (some (P0 b)) x5 x6 x7 x8 x9 x10 (some (.lst false (SL b))) x12 x13 x14 x15 x16 x17) S := by
  have hl := places_len h
  have h1 := places_pos h
  have hlen : ∀ S' : Sto, callBi S' .len [.lst false (SL b)] = some (.int (places b).length) := fun S' => by simp [callBi, lenOf, asSeq, asList, SL]
  have hs2 : evalSrc (cxt prog (k + 9) n) (.rng1 (.bin .sub (.bi .len [.var 11]) (.lit (.int 1)))) (en sv x2 (some (encB b)) (some (P0 b)) x5 x6 x7 x8 x9 x10 (some (.lst false (SL b))) x12 x13 x14 x15 x16 x17) S = .ok ((List.range ((places b).length - 1)).map nv) S := by
    simp only [sr_1, ev_bin, ev_bi, es_cons, es_nil, ev_lit, ev_var, List.getElem?_cons_succ, List.getElem?_cons_zero, R.bind_okS, set_lst, hlen, R.of_some, nv_sub _ h1, bind_int]
    exact rng_ok _ _ (by omega)
  have hc2 := ev_comp (c := cxt prog (k + 9) n) (own := [12]) (tg := .name 12) (ifs := [.cmp .ne (.idx (.idx (.var 11) (.var 12)) (.lit (.int 1))) (.idx (.idx (.var 11) (.bin .add (.var 12) (.lit (.int 1)))) (.lit (.int 0)))]) (elt := .var 12) hs2
    (comp_run nv (fun i => decide ((pq b i).2 % 2 = (pq b (i + 1)).2 % 2)) nv _ fun i hi => ⟨en sv x2 (some (encB b)) (some (P0 b)) x5 x6 x7 x8 x9 x10 (some (.lst false (SL b))) (some (nv i)) x13 x14 x15 x16 x17, by simp [wipe], by
      have hi := List.mem_range.mp hi
      simp [SL_at (show i < (places b).length by omega), SL_at (show i + 1 < (places b).length by omega), nv_add, encS0, encS1, ne_sides], fun _ => by simp⟩)
    (by rw [List.length_map]; exact Nat.le_trans (List.length_filter_le _ _) (by rw [List.length_range]; have := len_lim hl; omega))
  have hul : (unl b).length ≤ 1000 := by
    unfold unl
    exact Nat.le_trans (List.length_filter_le _ _) (by rw [List.length_range]; omega)
  have hs := same 1 (k + 7) (.tup ((unl b).map nv)) S (nice_N hul)
  have hu : ((List.range ((places b).length - 1)).filter fun i => decide ((pq b i).2 % 2 = (pq b (i + 1)).2 % 2)).map (fun i => (nv i).settle) = (unl b).map nv := rfl
  rw [hu] at hc2
  have ht : ∀ S' : Sto, callBi S' .tuple [.lst false ((unl b).map nv)] = some (.tup ((unl b).map nv)) := fun S' => by simp [callBi, tupleOf, asSeq, asList]
  simp [un (k + 2) S h, hc2, ht, hs]
/-! ### all places, lost ones too -/
end
def wh : Nat → List G → List (Nat × Nat)
  | _, [] => []
  | j, g :: b => ((List.range (2 * g.1)).map fun p => (j, p + 1)) ++ wh (j + 1) b
theorem mem_wh {q : Nat × Nat} : ∀ {b : List G} {n : Nat}, (∃ j g, b[j]? = some g ∧ q.1 = n + j ∧ 1 ≤ q.2 ∧ q.2 ≤ 2 * g.1) → q ∈ wh n b
  | [], n, h => by obtain ⟨j, g, h1, _⟩ := h; simp at h1
  | g :: b, n, h => by
    rw [wh, List.mem_append]
    obtain ⟨j, g', h1, h2, h3, h4⟩ := h
    cases j with
    | zero =>
      simp at h1
      subst h1
      exact .inl (List.mem_map.mpr ⟨q.2 - 1, List.mem_range.mpr (by omega), by ext <;> simp <;> omega⟩)
    | succ j => exact .inr (mem_wh ⟨j, g', by simpa using h1, by omega, h3, h4⟩)
theorem idx_blk (j : Nat) (q : Nat × Nat) (hq : q.1 = j) (h1 : 1 ≤ q.2) : ∀ (m a : Nat), a < q.2 → q.2 ≤ a + m → ((List.range m).map fun p => (j, a + p + 1)).idxOf q = q.2 - 1 - a
  | 0, a, h, h' => by omega
  | m + 1, a, h, h' => by
    rw [List.range_succ_eq_map, List.map_cons, List.map_map, List.idxOf_cons]
    by_cases e : q.2 = a + 1
    · have : ((j, a + 0 + 1) == q) = true := by simp; ext <;> simp <;> omega
      rw [this]; simp; omega
    · have : ((j, a + 0 + 1) == q) = false := by
        simp
        intro z
        rw [← z] at e
        simp at e
      rw [this, cond_false]
      have ih := idx_blk j q hq h1 m (a + 1) (by omega) (by omega)
      rw [show ((fun p => (j, a + p + 1)) ∘ Nat.succ) = fun p => (j, a + 1 + p + 1) from by funext p; simp; omega, ih]
      omega
theorem idx_wh {q : Nat × Nat} : ∀ {b : List G} {n : Nat}, (∃ j g, b[j]? = some g ∧ q.1 = n + j ∧ 1 ≤ q.2 ∧ q.2 ≤ 2 * g.1) → (wh n b).idxOf q % 2 = (q.2 - 1) % 2
  | [], n, h => by obtain ⟨j, g, h1, _⟩ := h; simp at h1
  | g :: b, n, h => by
    obtain ⟨j, g', h1, h2, h3, h4⟩ := h
    rw [wh, List.idxOf_append]
    cases j with
    | zero =>
      simp at h1
      subst h1
      have hm : q ∈ (List.range (2 * g.1)).map fun p => (n, p + 1) := List.mem_map.mpr ⟨q.2 - 1, List.mem_range.mpr (by omega), by ext <;> simp <;> omega⟩
      rw [if_pos hm]
      have := idx_blk n q (by omega) h3 (2 * g.1) 0 (by omega) (by omega)
      simp only [Nat.zero_add, Nat.sub_zero] at this
      rw [this]
    | succ j =>
      have hm : ¬ q ∈ (List.range (2 * g.1)).map fun p => (n, p + 1) := fun z => by
        obtain ⟨p, _, e⟩ := List.mem_map.mp z
        rw [← e] at h2
        simp at h2
      rw [if_neg hm]
      have ih := idx_wh (q := q) (b := b) (n := n + 1) ⟨j, g', by simpa using h1, by omega, h3, h4⟩
      simp only [List.length_map, List.length_range]
      omega
end K01

set_option linter.all false
set_option maxRecDepth 10000
namespace K01
open QE
def WH (b : List G) : Val := .lst false ((wh 0 b).map encP)
theorem wh_len {b : List G} (h : ∀ g ∈ b, VG g) : ∀ n, (wh n b).length ≤ 16 * b.length := by
  induction b with
  | nil => simp [wh]
  | cons g b ih =>
    intro n
    have h1 := (h g (by simp)).hi
    have h2 := ih (fun g hg => h g (List.mem_cons_of_mem _ hg)) (n + 1)
    simp only [wh, List.length_append, List.length_map, List.length_range, List.length_cons]
    omega
section
variable (k n : Nat) (S : Sto) {b : List G} (h : VB b) (sv : Val) (x2 x4 x5 x6 x7 x8 x10 x11 x12 x14 x15 x16 x17 : Option Val)
include h
abbrev as13 : Stm := .asg (.name 13) (.bin .add (.var 13) (.comp [18] (.name 18) (.rng2 (.lit (.int 1)) (.bin .add (.bin .mul (.lit (.int 2)) (.idx (.idx (.var 3) (.var 9)) (.lit (.int 0)))) (.lit (.int 1)))) [] (.tup [.var 9, .var 18])))
theorem wholes : ∀ (b' : List G) (j : Nat) (acc : List (Nat × Nat)) (x9 : Option Val), (∀ i g, b'[i]? = some g → b[j + i]? = some g) → acc.length + 16 * b'.length ≤ lim → ∃ y9,
    forLoop (.name 9) (execSs (cxt prog k n) [as13]) (((List.range b'.length).map (j + ·)).map nv) (en sv x2 (some (encB b)) x4 x5 x6 x7 x8 x9 x10 x11 x12 (some (.lst false (acc.map encP))) x14 x15 x16 x17) S
      = .ok (.nx, en sv x2 (some (encB b)) x4 x5 x6 x7 x8 y9 x10 x11 x12 (some (.lst false ((acc ++ wh j b').map encP))) x14 x15 x16 x17) S
  | [], j, acc, x9, _, _ => ⟨x9, by simp [forLoop, wh]⟩
  | g :: b', j, acc, x9, hj, hl => by
    have hat := hj 0 g rfl
    rw [Nat.add_zero] at hat
    have vg := h.get hat
    have hhi := vg.hi
    simp only [List.length_cons] at hl
    have b2 : ∀ S : Sto, QE.bin S .mul (.int 2) (nv g.1) = some (.int (2 * g.1)) := fun S => by simp [QE.bin, mulV, nv, sm2]
    have b3 : ∀ S : Sto, QE.bin S .add (.int (2 * g.1)) (.int 1) = some (.int (2 * g.1 + 1)) := fun S => rfl
    have hsrc : evalSrc (cxt prog k n) (.rng2 (.lit (.int 1)) (.bin .add (.bin .mul (.lit (.int 2)) (.idx (.idx (.var 3) (.var 9)) (.lit (.int 0)))) (.lit (.int 1)))) (en sv x2 (some (encB b)) x4 x5 x6 x7 x8 (some (nv j)) x10 x11 x12 (some (.lst false (acc.map encP))) x14 x15 x16 x17) S = .ok (((List.range (2 * g.1)).map (· + 1)).map nv) S := by
      simp only [sr_2, ev_lit, R.bind_okS, int_ok, ev_bin, ev_idx, ev_var, List.getElem?_cons_succ, List.getElem?_cons_zero, sheets_at j hat, sheet0, b2, b3, R.of_some]
      have := rng2_ok S (2 * g.1) (by omega)
      push_cast at this
      exact this
    have hc := ev_comp (c := cxt prog k n) (own := [18]) (tg := .name 18) (ifs := []) (elt := .tup [.var 9, .var 18]) hsrc
      (comp_all nv (fun p => encP (j, p)) _ fun p _ => ⟨[some sv, some (.ref 0), x2, some (encB b), x4, x5, x6, x7, x8, some (nv j), x10, x11, x12, some (.lst false (acc.map encP)), x14, x15, x16, x17, some (nv p), none, none], by simp [wipe], by simp [encP, lim]⟩)
      (by simp only [List.length_map, List.length_range, lim]; omega)
    have hadd : ∀ S : Sto, QE.bin S .add (.lst false (acc.map encP)) (.lst true (((List.range (2 * g.1)).map (· + 1)).map fun p => (encP (j, p)).settle)) = some (.lst true ((acc ++ (List.range (2 * g.1)).map fun p => (j, p + 1)).map encP)) := fun S => by
      have hz : acc.length + 2 * g.1 ≤ lim := by omega
      simp only [QE.bin, addV, asList, List.length_map, List.length_range, hz, if_true, List.map_append, List.map_map]
      rfl
    obtain ⟨y9, ih⟩ := wholes b' (j + 1) (acc ++ (List.range (2 * g.1)).map fun p => (j, p + 1)) (some (nv j)) (fun i g' hi => by
      have := hj (i + 1) g' (by simpa using hi)
      rwa [show j + (i + 1) = j + 1 + i by omega] at this) (by simp; omega)
    refine ⟨y9, ?_⟩
    have hr : (List.range (g :: b').length).map (j + ·) = j :: (List.range b'.length).map (j + 1 + ·) := by
      rw [List.length_cons, List.range_succ_eq_map, List.map_cons, List.map_map, Nat.add_zero]
      congr 1
      apply List.map_congr_left
      intro i _
      simp only [Function.comp_apply]
      omega
    rw [hr, List.map_cons, forLoop, bind_name, wh, ← List.append_assoc, ← ih]
    simp only [nv_st, en, List.set_cons_succ, List.set_cons_zero]
    simp only [xs_cons, xs_nil, x_asg, ev_bin, ev_var, List.getElem?_cons_succ, List.getElem?_cons_zero, R.bind_okS, hc, hadd, R.of_some, bind_name, List.set_cons_succ, List.set_cons_zero, set_lst]
theorem s14 (x9 : Option Val) : ∃ y9, execS (cxt prog k n) (.for_ (.name 9) (.rng1 (.bi .len [.var 3])) [as13]) (en sv x2 (some (encB b)) x4 x5 x6 x7 x8 x9 x10 x11 x12 (some (.lst false [])) x14 x15 x16 x17) S
    = .ok (.nx, en sv x2 (some (encB b)) x4 x5 x6 x7 x8 y9 x10 x11 x12 (some (WH b)) x14 x15 x16 x17) S := by
  have hf := h.few
  obtain ⟨y9, hg⟩ := wholes k n S h sv x2 x4 x5 x6 x7 x8 x10 x11 x12 x14 x15 x16 x17 b 0 [] x9 (fun i g hi => by simpa using hi) (by simp [lim]; omega)
  refine ⟨y9, x_for (xs := ((List.range b.length).map (0 + ·)).map nv) (S1 := S) ?_ hg⟩
  simp only [sr_1, ev_bi, es_cons, es_nil, ev_var, List.getElem?_cons_succ, List.getElem?_cons_zero, R.bind_okS, encB_st, len_encB, R.of_some, int_ok]
  rw [show (List.range b.length).map (0 + ·) = List.range b.length by simp]
  exact rng_ok _ _ (by omega)
end
theorem index_W {b : List G} (h : VB b) {q : Nat × Nat} (hq : q ∈ places b) (S : Sto) : ∃ m : Nat, m % 2 = (q.2 - 1) % 2 ∧ callMe S .index (WH b) [encP q] = some (nv m) := by
  obtain ⟨g, hg, vg, hsh, h1, h2⟩ := place_ok h hq
  have hex : ∃ j g, b[j]? = some g ∧ q.1 = 0 + j ∧ 1 ≤ q.2 ∧ q.2 ≤ 2 * g.1 := ⟨q.1, g, hg, by simp, h1, h2⟩
  refine ⟨(wh 0 b).idxOf q, idx_wh hex, ?_⟩
  simp only [callMe, WH, asList, QE.idxOf]
  rw [chk_P 63, chkL_P 62, index_P _ _ 0 (mem_wh hex)]
  simp [nv]
section
variable (k n : Nat) (S : Sto) {b : List G} (h : VB b) (sv : Val) (x2 x5 x6 x7 x8 x9 x10 x11 x12 x14 x15 x16 x17 : Option Val)
include h
theorem s15 : execS (cxt prog k n) (.asg (.name 14) (.comp [12] (.name 12) (.rng1 (.bin .sub (.bi .len [.var 4]) (.lit (.int 1)))) [.cmp .eq (.bin .mod (.bin .sub (.meth .index (.var 13) (.idx (.var 4) (.bin .add (.var 12) (.lit (.int 1))))) (.meth .index (.var 13) (.idx (.var 4) (.var 12)))) (.lit (.int 2))) (.lit (.int 0))] (.var 12)))
    (en sv x2 (some (encB b)) (some (P0 b)) x5 x6 x7 x8 x9 x10 x11 x12 (some (WH b)) x14 x15 x16 x17) S = .ok (.nx, en sv x2 (some (encB b)) (some (P0 b)) x5 x6 x7 x8 x9 x10 x11 x12 (some (WH b)) (some (.lst false ((unl b).map nv))) x15 x16 x17) S := by
  have hl := places_len h
  have h1 := places_pos h
  have hs2 : evalSrc (cxt prog k n) (.rng1 (.bin .sub (.bi .len [.var 4]) (.lit (.int 1)))) (en sv x2 (some (encB b)) (some (P0 b)) x5 x6 x7 x8 x9 x10 x11 x12 (some (WH b)) x14 x15 x16 x17) S = .ok ((List.range ((places b).length - 1)).map nv) S := by
    have hsub : ∀ S : Sto, QE.bin S .sub (nv (places b).length) (.int 1) = some (nv ((places b).length - 1)) := fun S => nv_sub _ h1 S
    simp only [sr_1, ev_bin, ev_bi, es_cons, es_nil, ev_lit, ev_var, List.getElem?_cons_succ, List.getElem?_cons_zero, R.bind_okS, P0_st, len_P0, R.of_some, hsub, bind_int]
    exact rng_ok _ _ (by omega)
  have hc2 := ev_comp (c := cxt prog k n) (own := [12]) (tg := .name 12) (ifs := [.cmp .eq (.bin .mod (.bin .sub (.meth .index (.var 13) (.idx (.var 4) (.bin .add (.var 12) (.lit (.int 1))))) (.meth .index (.var 13) (.idx (.var 4) (.var 12)))) (.lit (.int 2))) (.lit (.int 0))]) (elt := .var 12) hs2
    (comp_run nv (fun i => decide ((pq b i).2 % 2 = (pq b (i + 1)).2 % 2)) nv _ fun i hi => ⟨en sv x2 (some (encB b)) (some (P0 b)) x5 x6 x7 x8 x9 x10 x11 (some (nv i)) (some (WH b)) x14 x15 x16 x17, by simp [wipe], by
      have hi := List.mem_range.mp hi
      have i0 : i < (places b).length := by omega
      have i1 : i + 1 < (places b).length := by omega
      obtain ⟨m0, p0, e0⟩ := index_W h (pq_mem i0) S
      obtain ⟨m1, p1, e1⟩ := index_W h (pq_mem i1) S
      obtain ⟨_, _, _, _, q0, _⟩ := place_ok h (pq_mem i0)
      obtain ⟨_, _, _, _, q1, _⟩ := place_ok h (pq_mem i1)
      have t0 : item S (P0 b) (nv i) = some (encP (pq b i)) := place_at i S false (pq_get i0)
      have t1 : item S (P0 b) (nv (i + 1)) = some (encP (pq b (i + 1))) := place_at (i + 1) S false (pq_get i1)
      have hal : asList S (WH b) = some ((wh 0 b).map encP) := rfl
      have hsub : QE.bin S .sub (nv m1) (nv m0) = some (.int ((m1 : Int) - (m0 : Int))) := rfl
      have hmod : QE.bin S .mod (.int ((m1 : Int) - (m0 : Int))) (.int 2) = some (.int (((m1 : Int) - (m0 : Int)) % 2)) := by
        simp only [QE.bin, modV]
        rw [if_pos (by omega), Int.fmod_eq_emod_of_nonneg _ (by omega)]
      have heq : QE.cmp S .eq (.int (((m1 : Int) - (m0 : Int)) % 2)) (.int 0) = some (decide ((pq b i).2 % 2 = (pq b (i + 1)).2 % 2)) := by
        simp only [QE.cmp, eqVal, res]
        simp [Val.chk, Val.eqv]
        rw [Bool.eq_iff_iff]
        simp
        omega
      simp [hal, nv_add, t0, t1, e0, e1, hsub, hmod, heq], fun _ => by simp⟩)
    (by rw [List.length_map]; exact Nat.le_trans (List.length_filter_le _ _) (by rw [List.length_range]; have := len_lim hl; omega))
  have hu : ((List.range ((places b).length - 1)).filter fun i => decide ((pq b i).2 % 2 = (pq b (i + 1)).2 % 2)).map (fun i => (nv i).settle) = (unl b).map nv := rfl
  rw [hu] at hc2
  simp [hc2]
theorem s16 (x4 x13 : Option Val) : execS (cxt prog (k + 9) n) (.if_ (.not (.call 23 [.call 19 [.var 3], .bi .tuple [.var 14]])) [.ret (.lit (.bl false))] [])
    (en sv x2 (some (encB b)) x4 x5 x6 x7 x8 x9 x10 x11 x12 x13 (some (.lst false ((unl b).map nv))) x15 x16 x17) S = .ok (.nx, en sv x2 (some (encB b)) x4 x5 x6 x7 x8 x9 x10 x11 x12 x13 (some (.lst false ((unl b).map nv))) x15 x16 x17) S := by
  have hl := places_len h
  have hul : (unl b).length ≤ 1000 := by
    unfold unl
    exact Nat.le_trans (List.length_filter_le _ _) (by rw [List.length_range]; omega)
  have hs := same 1 (k + 7) (.tup ((unl b).map nv)) S (nice_N hul)
  have ht : ∀ S' : Sto, callBi S' .tuple [.lst false ((unl b).map nv)] = some (.tup ((unl b).map nv)) := fun S' => by simp [callBi, tupleOf, asSeq, asList]
  simp [un (k + 2) S h, ht, hs]
end
end K01

set_option linter.all false
set_option maxRecDepth 10000
namespace K01
open QE
/-! ### no books -/
def Bad (v : Val) : Prop := v.settle = v ∧ ∀ (k : Nat) (S : Sto), callFn prog (k + 5) 12 [v] S = .ok (.bl false) S
def BadG (v : Val) : Prop := v.settle = v ∧ ∀ (k : Nat) (S : Sto), callFn prog (k + 3) 4 [v] S = .ok (.bl false) S
theorem bad_not {v : Val} (hs : v.settle = v) (h : noT v = true) : Bad v := ⟨hs, fun k S => ib k S v false hs (fb_not k S v h)⟩
theorem bad_one {x : Val} (h : BadG x) : Bad (.tup [x]) := ⟨rfl, fun k S => ib k S _ false rfl (by
  have := fb k S [()] (fun _ => x) (fun _ => false) (fun _ => h.1) (fun _ _ => h.2 k S) (by simp [lim])
  simpa using this)⟩
theorem badG_not {v : Val} (hs : v.settle = v) (h : noT v = true) : BadG v := ⟨hs, fun k S => fg_not k S v h⟩
theorem badG_ints {s : Int} {is : List Int} (hl : is.length ≤ lim) (h : gOk s is = false) : BadG (.tup [.int s, .tup (is.map iv)]) := ⟨rfl, fun k S => by rw [fgI k S s is hl, h]⟩
theorem badG_nats {s : Nat} {l : List Nat} (hl : l.length ≤ lim) (h : gOk s (l.map fun n : Nat => (n : Int)) = false) : BadG (.tup [nv s, .tup (l.map nv)]) := by
  have := badG_ints (s := s) (is := l.map fun n : Nat => (n : Int)) (by simpa using hl) h
  rwa [← ints_nv] at this
theorem bad_pair {s : Nat} {l : List Nat} : Bad (.tup [nv s, .tup (l.map nv)]) := ⟨rfl, fun k S => ib k S _ false rfl (by
  have h1 : callFn prog (k + 3) 4 [nv s] S = .ok (.bl false) S := fg_not k S (nv s) rfl
  have h2 : callFn prog (k + 3) 4 [.tup (l.map nv)] S = .ok (.bl false) S := by
    by_cases hl : l.length = 2
    · match l, hl with
      | [a, c], _ => exact fg_snd k S a (nv c) rfl rfl
    · exact fg_len k S _ (by simpa using hl)
  have := fb k S [true, false] (fun t => if t then nv s else .tup (l.map nv)) (fun _ => false) (fun t => by cases t <;> rfl) (fun t _ => by cases t; exact h2; exact h1) (by simp [lim])
  simpa using this)⟩
def one11 : Val := .tup [.int 1, .tup [.int 1]]
theorem one_ok (k : Nat) (S : Sto) : callFn prog (k + 3) 4 [one11] S = .ok (.bl true) S := fgI k S 1 [1] (by simp [lim])
theorem bk_rep (k : Nat) (S : Sto) (m : Nat) (hm : 1 ≤ m) (hl : m ≤ 1000) : callFn prog (k + 5) 12 [.tup (List.replicate m one11)] S = .ok (.bl (decide (m ≤ 40))) S := ib k S _ _ rfl (by
  have := fb k S (List.replicate m ()) (fun _ => one11) (fun _ => true) (fun _ => rfl) (fun _ _ => one_ok k S) (by simp [lim]; omega)
  rw [List.map_replicate, List.length_replicate] at this
  rw [this]
  congr 2
  rw [Bool.eq_iff_iff]
  simp
  omega)
theorem bad_none {b : List G} (h : VB b) : Bad (.tup (b.map encG ++ [.non])) := ⟨rfl, fun k S => ib k S _ false rfl (by
  have := fb k S (b.map some ++ [none]) (fun o : Option G => match o with
    | some g => encG g
    | none => .non) (fun o => o.isSome) (fun o => by cases o <;> rfl) (fun o ho => by
      cases o with
      | none => exact fg_not k S .non rfl
      | some g =>
        have : g ∈ b := by simpa using ho
        exact fgV k S (h.each g this)) (by have := h.few; simp [lim]; omega)
  simp only [List.map_append, List.map_map, List.map_cons, List.map_nil] at this
  rw [show (b.map encG ++ [Val.non]) = b.map ((fun o : Option G => match o with
    | some g => encG g
    | none => .non) ∘ some) ++ [Val.non] from rfl, this]
  simp)⟩
def odds1 (b : List G) (g : G) : List Val := [.non, .tup [], .lst false (b.map encG), encG g, .tup [.tup [nv g.1, .tup []]], .tup [.tup [.int 0, .tup [.int 1]]], .tup [.tup [.int 9, .tup [.int 1]]],
  .tup [.tup [nv g.1, .tup (g.2.map nv ++ [.int (2 * (g.1 : Int) + 1)])]], .tup [.tup [nv g.1, .tup [.int 0]]], .tup [.tup [nv g.1, .tup [.int 1, .int 1]]], .tup [.tup [.int 2, .tup [.int 2, .int 1]]]]
def odds2 (b : List G) (g : G) : List Val := [.tup [.tup [nv g.1, .lst false (g.2.map nv)]], .tup [.lst false [nv g.1, .tup (g.2.map nv)]], .tup [.tup [.bl true, .tup [.int 1]]], .tup [.tup [.int 1, .tup [.bl true]]], .tup [.tup [.int 1, .tup [.int 1, .int 2, .int 3]]],
  .tup [.tup [nv g.1, .tup (g.2.map nv), .int 1]], .tup [.non], .tup [.tup [.int 1, .str [49]]], .tup (List.replicate 41 one11), .tup (b.map encG ++ [.non])]
theorem bad_all {b : List G} (h : VB b) {g : G} (hg : VG g) : ∀ v ∈ odds1 b g ++ odds2 b g, Bad v := by
  have hlen := hg.len
  have hlo := hg.lo; have hhi := hg.hi
  have key : ∀ l : List Nat, l.length ≤ 100 → gOk g.1 (l.map fun n : Nat => (n : Int)) = false → Bad (.tup [.tup [nv g.1, .tup (l.map nv)]]) := fun l hl hk => bad_one (badG_nats (by simp only [lim]; omega) hk)
  intro v hv
  simp only [odds1, odds2, List.cons_append, List.nil_append, List.mem_cons, List.not_mem_nil, or_false] at hv
  rcases hv with rfl | rfl | rfl | rfl | rfl | rfl | rfl | rfl | rfl | rfl | rfl | rfl | rfl | rfl | rfl | rfl | rfl | rfl | rfl | rfl | rfl
  · exact bad_not rfl rfl
  · exact ⟨rfl, fun k S => ib k S _ false rfl (by simpa using fb k S ([] : List Unit) (fun _ => Val.non) (fun _ => true) (fun _ => rfl) (fun a ha => by cases ha) (by simp))⟩
  · exact bad_not rfl rfl
  · exact bad_pair
  · exact key [] (by simp) (by simp [gOk])
  · exact bad_one (badG_ints (s := 0) (is := [1]) (by simp [lim]) (by decide))
  · exact bad_one (badG_ints (s := 9) (is := [1]) (by simp [lim]) (by decide))
  · have := key (g.2 ++ [2 * g.1 + 1]) (by simp; omega) (by
      unfold gOk
      simp
      omega)
    simpa [nv] using this
  · exact key [0] (by simp) (by simp [gOk])
  · exact key [1, 1] (by simp) (by simp [gOk, adj, ltI])
  · exact bad_one (badG_ints (s := 2) (is := [2, 1]) (by simp [lim]) (by decide))
  · exact bad_one ⟨rfl, fun k S => fg_snd k S g.1 _ rfl rfl⟩
  · exact bad_one (badG_not rfl rfl)
  · exact bad_one ⟨rfl, fun k S => fg_bl k S true _⟩
  · exact bad_one ⟨rfl, fun k S => fg_one k S⟩
  · exact bad_one (badG_ints (s := 1) (is := [1, 2, 3]) (by simp [lim]) (by decide))
  · exact bad_one ⟨rfl, fun k S => fg_len k S _ (by simp)⟩
  · exact bad_one (badG_not rfl rfl)
  · exact bad_one ⟨rfl, fun k S => fg_snd k S 1 _ rfl rfl⟩
  · exact ⟨rfl, fun k S => by rw [bk_rep k S 41 (by omega) (by omega)]; rfl⟩
  · exact bad_none h
end K01

set_option linter.all false
set_option maxRecDepth 10000
namespace K01
open QE
section
variable (k n : Nat) (S : Sto) {b : List G} (h : VB b) {g : G} (hg : b[0]? = some g) (sv : Val) (x2 x4 x5 x6 x7 x8 x9 x10 x11 x12 x13 x14 x15 x16 x17 : Option Val)
include h hg
theorem s17 : execS (cxt prog k n) (.asg (.tup [.name 15, .name 16]) (.idx (.var 3) (.lit (.int 0)))) (en sv x2 (some (encB b)) x4 x5 x6 x7 x8 x9 x10 x11 x12 x13 x14 x15 x16 x17) S
    = .ok (.nx, en sv x2 (some (encB b)) x4 x5 x6 x7 x8 x9 x10 x11 x12 x13 x14 (some (nv g.1)) (some (.tup (g.2.map nv))) x17) S := by
  have := sheets_at 0 hg S
  change item S (encB b) (.int 0) = some (encG g) at this
  simp only [x_asg, ev_idx, ev_var, ev_lit, List.getElem?_cons_succ, List.getElem?_cons_zero, R.bind_okS, this, R.of_some]
  simp [encG]
theorem s18 : execS (cxt prog k n) (.asg (.name 17) (.list [(.lit .non), (.tup []), (.bi .list [(.var 3)]), (.idx (.var 3) (.lit (.int 0))), (.tup [(.tup [(.var 15), (.tup [])])]), (.tup [(.tup [(.lit (.int 0)), (.tup [(.lit (.int 1))])])]), (.tup [(.tup [(.lit (.int 9)), (.tup [(.lit (.int 1))])])]), (.tup [(.tup [(.var 15), (.bin .add (.var 16) (.tup [(.bin .add (.bin .mul (.lit (.int 2)) (.var 15)) (.lit (.int 1)))]))])]), (.tup [(.tup [(.var 15), (.tup [(.lit (.int 0))])])]), (.tup [(.tup [(.var 15), (.tup [(.lit (.int 1)), (.lit (.int 1))])])]), (.tup [(.tup [(.lit (.int 2)), (.tup [(.lit (.int 2)), (.lit (.int 1))])])])]))
    (en sv x2 (some (encB b)) x4 x5 x6 x7 x8 x9 x10 x11 x12 x13 x14 (some (nv g.1)) (some (.tup (g.2.map nv))) x17) S
    = .ok (.nx, en sv x2 (some (encB b)) x4 x5 x6 x7 x8 x9 x10 x11 x12 x13 x14 (some (nv g.1)) (some (.tup (g.2.map nv))) (some (.lst false (odds1 b g)))) S := by
  have hit := sheets_at 0 hg S
  change item S (encB b) (.int 0) = some (encG g) at hit
  have hlen := (h.get hg).len
  have hl : callBi S .list [encB b] = some (.lst true (b.map encG)) := by simp [encB, callBi, listOf, asSeq]
  have b2 : QE.bin S .mul (.int 2) (nv g.1) = some (.int (2 * g.1)) := by simp [QE.bin, mulV, nv, sm2]
  have b3 : QE.bin S .add (.int (2 * g.1)) (.int 1) = some (.int (2 * g.1 + 1)) := rfl
  have b4 : QE.bin S .add (.tup (g.2.map nv)) (.tup [.int (2 * (g.1 : Int) + 1)]) = some (.tup (g.2.map nv ++ [.int (2 * (g.1 : Int) + 1)])) := by
    have : g.2.length + 1 ≤ lim := by simp only [lim]; omega
    simp [QE.bin, addV, this]
  simp [hit, hl, b2, b3, b4, lim, odds1]
theorem s19 : execS (cxt prog k n) (.asg (.name 17) (.bin .add (.var 17) (.list [(.tup [(.tup [(.var 15), (.bi .list [(.var 16)])])]), (.tup [(.list [(.var 15), (.var 16)])]), (.tup [(.tup [(.lit (.bl true)), (.tup [(.lit (.int 1))])])]), (.tup [(.tup [(.lit (.int 1)), (.tup [(.lit (.bl true))])])]), (.tup [(.tup [(.lit (.int 1)), (.tup [(.lit (.int 1)), (.lit (.int 2)), (.lit (.int 3))])])]), (.tup [(.tup [(.var 15), (.var 16), (.lit (.int 1))])]), (.tup [(.lit .non)]), (.tup [(.tup [(.lit (.int 1)), (.lit (.str [49]))])]), (.bin .mul (.tup [(.tup [(.lit (.int 1)), (.tup [(.lit (.int 1))])])]) (.lit (.int 41))), (.bin .add (.var 3) (.tup [(.lit .non)]))])))
    (en sv x2 (some (encB b)) x4 x5 x6 x7 x8 x9 x10 x11 x12 x13 x14 (some (nv g.1)) (some (.tup (g.2.map nv))) (some (.lst false (odds1 b g)))) S
    = .ok (.nx, en sv x2 (some (encB b)) x4 x5 x6 x7 x8 x9 x10 x11 x12 x13 x14 (some (nv g.1)) (some (.tup (g.2.map nv))) (some (.lst false (odds1 b g ++ odds2 b g)))) S := by
  have hf := h.few
  have hl : callBi S .list [.tup (g.2.map nv)] = some (.lst true (g.2.map nv)) := by simp [callBi, listOf, asSeq]
  have b1 : QE.bin S .mul (.tup [.tup [.int 1, .tup [.int 1]]]) (.int 41) = some (.tup (List.replicate 41 one11)) := rfl
  have b2 : QE.bin S .add (encB b) (.tup [.non]) = some (.tup (b.map encG ++ [.non])) := by
    have : b.length + 1 ≤ lim := by simp only [lim]; omega
    simp [QE.bin, addV, encB, this]
  have b3 : QE.bin S .add (.lst false (odds1 b g)) (.lst true (odds2 b g)) = some (.lst true (odds1 b g ++ odds2 b g)) := by
    simp [QE.bin, addV, asList, odds1, odds2, lim]
  have b4 : (evalE (cxt prog k n) (.list [(.tup [(.tup [(.var 15), (.bi .list [(.var 16)])])]), (.tup [(.list [(.var 15), (.var 16)])]), (.tup [(.tup [(.lit (.bl true)), (.tup [(.lit (.int 1))])])]), (.tup [(.tup [(.lit (.int 1)), (.tup [(.lit (.bl true))])])]), (.tup [(.tup [(.lit (.int 1)), (.tup [(.lit (.int 1)), (.lit (.int 2)), (.lit (.int 3))])])]), (.tup [(.tup [(.var 15), (.var 16), (.lit (.int 1))])]), (.tup [(.lit .non)]), (.tup [(.tup [(.lit (.int 1)), (.lit (.str [49]))])]), (.bin .mul (.tup [(.tup [(.lit (.int 1)), (.tup [(.lit (.int 1))])])]) (.lit (.int 41))), (.bin .add (.var 3) (.tup [(.lit .non)]))]) (en sv x2 (some (encB b)) x4 x5 x6 x7 x8 x9 x10 x11 x12 x13 x14 (some (nv g.1)) (some (.tup (g.2.map nv))) (some (.lst false (odds1 b g)))) S) = .ok (.lst true (odds2 b g)) S := by
    simp [hl, b1, b2, lim, odds2]
  rw [x_asg, ev_bin, ev_var]
  simp only [List.getElem?_cons_succ, List.getElem?_cons_zero, R.bind_okS]
  rw [b4]
  simp only [R.bind_okS, b3, R.of_some, bind_name, set_lst]
  rfl
theorem s20 : execS (cxt prog (k + 9) n) (.if_ (.or [(.cmp .ne (.comp [20] (.name 20) (.it (.var 17)) [(.cmp .isn (.call 12 [(.var 20)]) (.lit (.bl false)))] (.var 20)) (.list [])), (.cmp .isn (.call 12 [(.bin .mul (.tup [(.tup [(.lit (.int 1)), (.tup [(.lit (.int 1))])])]) (.lit (.int 40)))]) (.lit (.bl true)))]) [(.ret (.lit (.bl false)))] [])
    (en sv x2 (some (encB b)) x4 x5 x6 x7 x8 x9 x10 x11 x12 x13 x14 x15 x16 (some (.lst false (odds1 b g ++ odds2 b g)))) S
    = .ok (.nx, en sv x2 (some (encB b)) x4 x5 x6 x7 x8 x9 x10 x11 x12 x13 x14 x15 x16 (some (.lst false (odds1 b g ++ odds2 b g)))) S := by
  have hb := bad_all h (h.get hg)
  have hc := ev_comp (c := cxt prog (k + 9) n) (own := [20]) (tg := .name 20) (src := .it (.var 17)) (ifs := [.cmp .isn (.call 12 [.var 20]) (.lit (.bl false))]) (elt := .var 20) (env := en sv x2 (some (encB b)) x4 x5 x6 x7 x8 x9 x10 x11 x12 x13 x14 x15 x16 (some (.lst false (odds1 b g ++ odds2 b g)))) (S := S) (S1 := S) (S2 := S)
    (xs := (odds1 b g ++ odds2 b g).map id) (by
      simp only [sr_it, ev_var, List.getElem?_cons_succ, List.getElem?_cons_zero, R.bind_okS, walkOf, R.of_some, List.map_id])
    (comp_run id (fun _ => false) id (odds1 b g ++ odds2 b g) fun v hv => ⟨[some sv, some (.ref 0), x2, some (encB b), x4, x5, x6, x7, x8, x9, x10, x11, x12, x13, x14, x15, x16, some (.lst false (odds1 b g ++ odds2 b g)), none, none, some v], by
      simp only [id, bind_name, (hb v hv).1]
      rfl, by
      have h1 := (hb v hv).1
      have h2 := (hb v hv).2 (k + 4) S
      have hi : QE.cmp S .isn (.bl false) (.bl false) = some false := rfl
      simp only [ea_cons, ea_nil, ev_cmp, ev_call, es_cons, es_nil, ev_var, ev_lit, List.getElem?_cons_succ, List.getElem?_cons_zero, R.bind_okS, cxt_call, h1, h2, hi, R.of_some, bl_ok, Bool.false_eq_true, if_false], fun z => by cases z⟩)
    (by
      rw [List.length_map]
      exact Nat.le_trans (List.length_filter_le _ _) (by simp [odds1, odds2, lim]))
  have hnil : ((odds1 b g ++ odds2 b g).filter fun _ => false).map (fun a => (id a).settle) = [] := by
    rw [List.filter_eq_nil_iff.mpr (fun _ _ => by simp)]
    rfl
  rw [hnil] at hc
  have hne : QE.cmp S .ne (.lst true []) (.lst true []) = some false := by simp [QE.cmp, eqVal, res, Val.chk, Val.chkL, Val.eqv, Val.eqvL, nt]
  have b1 : QE.bin S .mul (.tup [.tup [.int 1, .tup [.int 1]]]) (.int 40) = some (.tup (List.replicate 40 one11)) := rfl
  have h40 : callFn prog (k + 9) 12 [.tup (List.replicate 40 one11)] S = .ok (.bl true) S := by rw [bk_rep (k + 4) S 40 (by omega) (by omega)]; rfl
  rw [x_if, ev_or, eor_cons, ev_cmp, hc]
  simp [hne, b1, h40, isn_true, lim, -List.reduceReplicate]
end
def lawBody : List Stm := match d_law.body with
  | _ :: .for_ _ _ b :: _ => b
  | _ => []
def IsEn (sv : Val) (x2 : Option Val) (e : Env) : Prop := ∃ y3 y4 y5 y6 y7 y8 y9 y10 y11 y12 y13 y14 y15 y16 y17, e = en sv x2 y3 y4 y5 y6 y7 y8 y9 y10 y11 y12 y13 y14 y15 y16 y17
theorem turn (k n : Nat) (hn : n = 0) (R : Sto) (a c : Int) (ha : 0 ≤ a) (sv : Val) (x2 : Option Val) (e : Env) (he : IsEn sv x2 e) :
    ∃ (a' c' : Int) (R' : Sto) (e' : Env), 0 ≤ a' ∧ IsEn sv x2 e' ∧ execSs (cxt prog (k + 9) n) lawBody e (cup a c :: R) = .ok (.nx, e') (cup a' c' :: R') := by
  obtain ⟨x3, x4, x5, x6, x7, x8, x9, x10, x11, x12, x13, x14, x15, x16, x17, rfl⟩ := he
  obtain ⟨b, a', c', h, ha', hb⟩ := bk (k + 7) R a c ha
  obtain ⟨g, hg⟩ : ∃ g, b[0]? = some g := ⟨b[0]'(by have := h.ne; omega), List.getElem?_eq_getElem _⟩
  let S1 : Sto := cup a' c' :: R
  obtain ⟨y9, y10, h9⟩ := s9 (k + 9) n S1 h (by omega) sv x2 (some (P0 b)) (some (.int (lostI b))) (some (.lst false (mates b))) (some (marksV b)) x11 x12 x13 x14 x15 x16 x17 x9 x10
  let S2 : Sto := S1 ++ [.dic true (kvF (qs 0 b))]
  obtain ⟨y12, h11⟩ := s11 k n S2 h sv x2 (some (.int (lostI b))) (some (marksV b)) (some (.ref S1.length)) y9 y10 x13 x14 x15 x16 x17 x12
  obtain ⟨y9', h14⟩ := s14 (k + 9) n S2 h sv x2 (some (P0 b)) (some (.int (lostI b))) (some (.lst false (mates b))) (some (marksV b)) (some (.ref S1.length)) y10 (some (.lst false (SL b))) y12 x14 x15 x16 x17 y9
  refine ⟨a', c', R ++ [.dic true (kvF (qs 0 b))], en sv x2 (some (encB b)) (some (P0 b)) (some (.int (lostI b))) (some (.lst false (mates b))) (some (marksV b)) (some (.ref S1.length)) y9' y10 (some (.lst false (SL b))) y12 (some (WH b)) (some (.lst false ((unl b).map nv))) (some (nv g.1)) (some (.tup (g.2.map nv))) (some (.lst false (odds1 b g ++ odds2 b g))), ha', ⟨_, _, _, _, _, _, _, _, _, _, _, _, _, _, _, rfl⟩, ?_⟩
  refine ss_step (env' := en sv x2 (some (encB b)) x4 x5 x6 x7 x8 x9 x10 x11 x12 x13 x14 x15 x16 x17) (S' := S1) (by simp [hb, S1]) ?_
  refine ss_step (env' := en sv x2 (some (encB b)) (some (P0 b)) x5 x6 x7 x8 x9 x10 x11 x12 x13 x14 x15 x16 x17) (S' := S1) (by simp [lp (k + 8) S1 h]) ?_
  refine ss_step (s3 k n S1 h sv x2 x5 x6 x7 x8 x9 x10 x11 x12 x13 x14 x15 x16 x17) ?_
  refine ss_step (s4 k n S1 h sv x2 x6 x7 x8 x9 x10 x11 x12 x13 x14 x15 x16 x17) ?_
  refine ss_step (s5 k n S1 h sv x2 _ x6 x7 x8 x9 x10 x11 x12 x13 x14 x15 x16 x17) ?_
  refine ss_step (s6 k n S1 h sv x2 _ x7 x8 x9 x10 x11 x12 x13 x14 x15 x16 x17) ?_
  refine ss_step (s7 k n S1 h sv x2 _ _ x8 x9 x10 x11 x12 x13 x14 x15 x16 x17) ?_
  refine ss_step (env' := en sv x2 (some (encB b)) (some (P0 b)) (some (.int (lostI b))) (some (.lst false (mates b))) (some (marksV b)) (some (.ref S1.length)) x9 x10 x11 x12 x13 x14 x15 x16 x17) (S' := S1 ++ [.dic true []]) (by simp [newCell]) ?_
  refine ss_step h9 ?_
  refine ss_step (s10 (k + 9) n S1 h sv x2 _ _ _ y9 y10 x11 x12 x13 x14 x15 x16 x17) ?_
  refine ss_step h11 ?_
  refine ss_step (s12 k n S2 h sv x2 _ _ _ _ _ _ x13 x14 x15 x16 x17 y12) ?_
  refine ss_step (env' := en sv x2 (some (encB b)) (some (P0 b)) (some (.int (lostI b))) (some (.lst false (mates b))) (some (marksV b)) (some (.ref S1.length)) y9 y10 (some (.lst false (SL b))) y12 (some (.lst false [])) x14 x15 x16 x17) (S' := S2) (by simp [lim]) ?_
  refine ss_step h14 ?_
  refine ss_step (s15 (k + 9) n S2 h sv x2 _ _ _ _ _ _ _ _ x14 x15 x16 x17) ?_
  refine ss_step (s16 k n S2 h sv x2 _ _ _ _ _ _ _ _ x15 x16 x17 _ _) ?_
  refine ss_step (s17 (k + 9) n S2 h hg sv x2 _ _ _ _ _ _ _ _ _ _ _ x15 x16 x17) ?_
  refine ss_step (s18 (k + 9) n S2 h hg sv x2 _ _ _ _ _ _ _ _ _ _ _ x17) ?_
  refine ss_step (s19 (k + 9) n S2 h hg sv x2 _ _ _ _ _ _ _ _ _ _ _) ?_
  refine ss_step (s20 k n S2 h hg sv x2 _ _ _ _ _ _ _ _ _ _ _ _ _) ?_
  exact xs_nil _ _ _
theorem turns (k n : Nat) (hn : n = 0) (sv : Val) : ∀ (ts : List Val) (R : Sto) (a c : Int) (x2 : Option Val) (e : Env), 0 ≤ a → IsEn sv x2 e →
    ∃ (R' : Sto) (e' : Env), forLoop (.name 2) (execSs (cxt prog (k + 9) n) lawBody) ts e (cup a c :: R) = .ok (.nx, e') R'
  | [], R, a, c, x2, e, _, _ => ⟨_, _, rfl⟩
  | t :: ts, R, a, c, x2, e, ha, he => by
    have he2 : IsEn sv (some t.settle) (e.set 2 (some t.settle)) := by
      obtain ⟨x3, x4, x5, x6, x7, x8, x9, x10, x11, x12, x13, x14, x15, x16, x17, rfl⟩ := he
      exact ⟨x3, x4, x5, x6, x7, x8, x9, x10, x11, x12, x13, x14, x15, x16, x17, rfl⟩
    obtain ⟨a', c', R', e', h1, h2, h3⟩ := turn k n hn R a c ha sv _ _ he2
    obtain ⟨R2, e2, h4⟩ := turns k n hn sv ts R' a' c' _ e' h1 h2
    exact ⟨R2, e2, by simp only [forLoop, bind_name, h3, QE.R.bind_okS, h4]⟩
theorem fin0 (e' : Env) (R' : Sto) : ∃ S0, finish 0 (.ok (.rt (.bl true), e') R') = .ok (.bl true) S0 := by
  simp only [finish]
  split
  · exact ⟨_, rfl⟩
  · exact ⟨_, by simp [freeze, freeze1, Val.low]; rfl⟩
theorem law_ok (v : Val) (ns : List Int) (hl : ns.length ≤ 63) (hv : ∀ S, callBi S .list [v.settle] = some (.lst true (ns.map .int))) (hs : v.settle = v) : ∃ S, callFn prog 24 27 [v] [] = .ok (.bl true) S := by
  obtain ⟨a, c, ha, hc⟩ := cu 22 v ns hl hv
  have hc' : callFn prog 23 21 [v] [] = .ok (.lst true [.int a, .int c]) [] := hc
  obtain ⟨R', e', hf⟩ := turns 14 0 rfl v ((List.range 4).map nv) [] a c none (en v none none none none none none none none none none none none none none none none) ha ⟨_, _, _, _, _, _, _, _, _, _, _, _, _, _, _, rfl⟩
  obtain ⟨S0, hS⟩ := fin0 e' R'
  refine ⟨S0, ?_⟩
  rw [run_fn (k := 23) (d := d_law) rfl rfl]
  suffices hrun : execSs (cxt prog 23 0) d_law.body [some v, none, none, none, none, none, none, none, none, none, none, none, none, none, none, none, none, none, none, none, none] [] = .ok (.rt (.bl true), e') R' from
    (congrArg (finish 0) hrun).trans hS
  refine ss_step (env' := en v none none none none none none none none none none none none none none none none) (S' := [cup a c]) (by simp [hs, hc', newCell, cup]) ?_
  refine ss_step (env' := e') (S' := R') (x_for (xs := (List.range 4).map nv) (S1 := [cup a c]) (by
    simp only [sr_1, ev_lit, QE.R.bind_okS, int_ok]
    exact rng_ok _ 4 (by omega)) hf) ?_
  simp
end K01

set_option Elab.async false
set_option linter.all false
set_option maxRecDepth 100000
namespace K01
open PySem PySem.Spec PyProof.Rows L2 QE
theorem told : ∀ ns : List Int, ns.length ≤ 63 → Told (callFn prog 24 27 [.lst false (QE.intVs ns)] []) ∧ Told (callFn prog 24 27 [.kls ns] []) := fun ns hl =>
  ⟨law_ok _ ns hl (fun S => rfl) rfl, law_ok _ ns hl (fun S => rfl) rfl⟩
/-! ### the text by places -/
def topS (i : Nat) : PySem.Stmt := PySem.Challenge.pw_quires_k01_whole_books_of_gatherings.main.body.getD i (.Pass ⟨0, 0, 0, 0⟩)
def sN (l : List String) : List PySem.Str := l.map PySem.Str.ofString
def bis : List PySem.Str := sN ["abs", "all", "bool", "enumerate", "int", "isinstance", "len", "list", "min", "range", "str", "sum", "tuple", "zip"]
def cnames : List PySem.Str := sN ["SHEETS", "GATHERINGS", "LEAVES"]
def e_is_whole : Ent := ⟨"is_whole", topS 6, sN n_is_whole, sN (n_is_whole.take 1)⟩
def e_fits_whole : Ent := ⟨"fits_whole", topS 7, sN n_fits_whole, sN (n_fits_whole.take 3)⟩
def e_is_tuple_of : Ent := ⟨"is_tuple_of", topS 8, sN n_is_tuple_of, sN (n_is_tuple_of.take 3)⟩
def e_is_rising : Ent := ⟨"is_rising", topS 9, sN n_is_rising, sN (n_is_rising.take 1)⟩
def e_fits_gathering : Ent := ⟨"fits_gathering", topS 14, sN n_fits_gathering, sN (n_fits_gathering.take 1)⟩
def e_fits_book : Ent := ⟨"fits_book", topS 15, sN n_fits_book, sN (n_fits_book.take 1)⟩
def e_need_book : Ent := ⟨"need_book", topS 16, sN n_need_book, sN (n_need_book.take 1)⟩
def e_need_leaf : Ent := ⟨"need_leaf", topS 17, sN n_need_leaf, sN (n_need_leaf.take 2)⟩
def e_places_in : Ent := ⟨"places_in", topS 18, sN n_places_in, sN (n_places_in.take 1)⟩
def e_pairs_in : Ent := ⟨"pairs_in", topS 19, sN n_pairs_in, sN (n_pairs_in.take 1)⟩
def e_lone_in : Ent := ⟨"lone_in", topS 20, sN n_lone_in, sN (n_lone_in.take 1)⟩
def e_fits_marks : Ent := ⟨"fits_marks", topS 21, sN n_fits_marks, sN (n_fits_marks.take 2)⟩
def e_is_book : Ent := ⟨"is_book", topS 22, sN n_is_book, sN (n_is_book.take 1)⟩
def e_leaves_many : Ent := ⟨"leaves_many", topS 23, sN n_leaves_many, sN (n_leaves_many.take 1)⟩
def e_lost_many : Ent := ⟨"lost_many", topS 24, sN n_lost_many, sN (n_lost_many.take 1)⟩
def e_place_of : Ent := ⟨"place_of", topS 25, sN n_place_of, sN (n_place_of.take 2)⟩
def e_mate_of : Ent := ⟨"mate_of", topS 26, sN n_mate_of, sN (n_mate_of.take 2)⟩
def e_marks_of : Ent := ⟨"marks_of", topS 27, sN n_marks_of, sN (n_marks_of.take 1)⟩
def e_sides_of : Ent := ⟨"sides_of", topS 28, sN n_sides_of, sN (n_sides_of.take 2)⟩
def e_unlike_openings : Ent := ⟨"unlike_openings", topS 29, sN n_unlike_openings, sN (n_unlike_openings.take 1)⟩
def e_does_fit : Ent := ⟨"does_fit", topS 30, sN n_does_fit, sN (n_does_fit.take 2)⟩
def e__law_cup : Ent := ⟨"_law_cup", topS 32, sN n__law_cup, sN (n__law_cup.take 1)⟩
def e__law_roll : Ent := ⟨"_law_roll", topS 33, sN n__law_roll, sN (n__law_roll.take 2)⟩
def e__law_same : Ent := ⟨"_law_same", topS 35, sN n__law_same, sN (n__law_same.take 2)⟩
def e__law_book : Ent := ⟨"_law_book", topS 36, sN n__law_book, sN (n__law_book.take 3)⟩
def e__law_places : Ent := ⟨"_law_places", topS 37, sN n__law_places, sN (n__law_places.take 1)⟩
def e__law_mate : Ent := ⟨"_law_mate", topS 38, sN n__law_mate, sN (n__law_mate.take 3)⟩
def e_law : Ent := ⟨"law", topS 39, sN n_law, sN (n_law.take 1)⟩
def ents : List Ent := [e_is_whole, e_fits_whole, e_is_tuple_of, e_is_rising, e_fits_gathering, e_fits_book, e_need_book, e_need_leaf, e_places_in, e_pairs_in, e_lone_in, e_fits_marks, e_is_book, e_leaves_many, e_lost_many, e_place_of, e_mate_of, e_marks_of, e_sides_of, e_unlike_openings, e_does_fit, e__law_cup, e__law_roll, e__law_same, e__law_book, e__law_places, e__law_mate, e_law]
theorem checked : chkAll ⟨ents.map (·.x), cnames, bis⟩ prog.fns ents = true := by decide +kernel
theorem b_is_whole : ∀ (kV doc pm : Value) (an : Option Addr) (cdv ct : Value) (us : List Value), us.length = e_is_whole.ps.length → bindArgs (PySem.W.fnOf e_is_whole.x e_is_whole.x (defArgs e_is_whole.st) (defBody e_is_whole.st) (defScope e_is_whole.st) .none kV doc pm an cdv ct) ⟨us, []⟩ = pure (e_is_whole.ps.zip us) := fun _ _ _ _ _ _ us hl => match us, hl with | [_], _ => rfl
theorem b_fits_whole : ∀ (kV doc pm : Value) (an : Option Addr) (cdv ct : Value) (us : List Value), us.length = e_fits_whole.ps.length → bindArgs (PySem.W.fnOf e_fits_whole.x e_fits_whole.x (defArgs e_fits_whole.st) (defBody e_fits_whole.st) (defScope e_fits_whole.st) .none kV doc pm an cdv ct) ⟨us, []⟩ = pure (e_fits_whole.ps.zip us) := fun _ _ _ _ _ _ us hl => match us, hl with | [_, _, _], _ => rfl
theorem b_is_tuple_of : ∀ (kV doc pm : Value) (an : Option Addr) (cdv ct : Value) (us : List Value), us.length = e_is_tuple_of.ps.length → bindArgs (PySem.W.fnOf e_is_tuple_of.x e_is_tuple_of.x (defArgs e_is_tuple_of.st) (defBody e_is_tuple_of.st) (defScope e_is_tuple_of.st) .none kV doc pm an cdv ct) ⟨us, []⟩ = pure (e_is_tuple_of.ps.zip us) := fun _ _ _ _ _ _ us hl => match us, hl with | [_, _, _], _ => rfl
theorem b_is_rising : ∀ (kV doc pm : Value) (an : Option Addr) (cdv ct : Value) (us : List Value), us.length = e_is_rising.ps.length → bindArgs (PySem.W.fnOf e_is_rising.x e_is_rising.x (defArgs e_is_rising.st) (defBody e_is_rising.st) (defScope e_is_rising.st) .none kV doc pm an cdv ct) ⟨us, []⟩ = pure (e_is_rising.ps.zip us) := fun _ _ _ _ _ _ us hl => match us, hl with | [_], _ => rfl
theorem b_fits_gathering : ∀ (kV doc pm : Value) (an : Option Addr) (cdv ct : Value) (us : List Value), us.length = e_fits_gathering.ps.length → bindArgs (PySem.W.fnOf e_fits_gathering.x e_fits_gathering.x (defArgs e_fits_gathering.st) (defBody e_fits_gathering.st) (defScope e_fits_gathering.st) .none kV doc pm an cdv ct) ⟨us, []⟩ = pure (e_fits_gathering.ps.zip us) := fun _ _ _ _ _ _ us hl => match us, hl with | [_], _ => rfl
theorem b_fits_book : ∀ (kV doc pm : Value) (an : Option Addr) (cdv ct : Value) (us : List Value), us.length = e_fits_book.ps.length → bindArgs (PySem.W.fnOf e_fits_book.x e_fits_book.x (defArgs e_fits_book.st) (defBody e_fits_book.st) (defScope e_fits_book.st) .none kV doc pm an cdv ct) ⟨us, []⟩ = pure (e_fits_book.ps.zip us) := fun _ _ _ _ _ _ us hl => match us, hl with | [_], _ => rfl
theorem b_need_book : ∀ (kV doc pm : Value) (an : Option Addr) (cdv ct : Value) (us : List Value), us.length = e_need_book.ps.length → bindArgs (PySem.W.fnOf e_need_book.x e_need_book.x (defArgs e_need_book.st) (defBody e_need_book.st) (defScope e_need_book.st) .none kV doc pm an cdv ct) ⟨us, []⟩ = pure (e_need_book.ps.zip us) := fun _ _ _ _ _ _ us hl => match us, hl with | [_], _ => rfl
theorem b_need_leaf : ∀ (kV doc pm : Value) (an : Option Addr) (cdv ct : Value) (us : List Value), us.length = e_need_leaf.ps.length → bindArgs (PySem.W.fnOf e_need_leaf.x e_need_leaf.x (defArgs e_need_leaf.st) (defBody e_need_leaf.st) (defScope e_need_leaf.st) .none kV doc pm an cdv ct) ⟨us, []⟩ = pure (e_need_leaf.ps.zip us) := fun _ _ _ _ _ _ us hl => match us, hl with | [_, _], _ => rfl
theorem b_places_in : ∀ (kV doc pm : Value) (an : Option Addr) (cdv ct : Value) (us : List Value), us.length = e_places_in.ps.length → bindArgs (PySem.W.fnOf e_places_in.x e_places_in.x (defArgs e_places_in.st) (defBody e_places_in.st) (defScope e_places_in.st) .none kV doc pm an cdv ct) ⟨us, []⟩ = pure (e_places_in.ps.zip us) := fun _ _ _ _ _ _ us hl => match us, hl with | [_], _ => rfl
theorem b_pairs_in : ∀ (kV doc pm : Value) (an : Option Addr) (cdv ct : Value) (us : List Value), us.length = e_pairs_in.ps.length → bindArgs (PySem.W.fnOf e_pairs_in.x e_pairs_in.x (defArgs e_pairs_in.st) (defBody e_pairs_in.st) (defScope e_pairs_in.st) .none kV doc pm an cdv ct) ⟨us, []⟩ = pure (e_pairs_in.ps.zip us) := fun _ _ _ _ _ _ us hl => match us, hl with | [_], _ => rfl
theorem b_lone_in : ∀ (kV doc pm : Value) (an : Option Addr) (cdv ct : Value) (us : List Value), us.length = e_lone_in.ps.length → bindArgs (PySem.W.fnOf e_lone_in.x e_lone_in.x (defArgs e_lone_in.st) (defBody e_lone_in.st) (defScope e_lone_in.st) .none kV doc pm an cdv ct) ⟨us, []⟩ = pure (e_lone_in.ps.zip us) := fun _ _ _ _ _ _ us hl => match us, hl with | [_], _ => rfl
theorem b_fits_marks : ∀ (kV doc pm : Value) (an : Option Addr) (cdv ct : Value) (us : List Value), us.length = e_fits_marks.ps.length → bindArgs (PySem.W.fnOf e_fits_marks.x e_fits_marks.x (defArgs e_fits_marks.st) (defBody e_fits_marks.st) (defScope e_fits_marks.st) .none kV doc pm an cdv ct) ⟨us, []⟩ = pure (e_fits_marks.ps.zip us) := fun _ _ _ _ _ _ us hl => match us, hl with | [_, _], _ => rfl
theorem b_is_book : ∀ (kV doc pm : Value) (an : Option Addr) (cdv ct : Value) (us : List Value), us.length = e_is_book.ps.length → bindArgs (PySem.W.fnOf e_is_book.x e_is_book.x (defArgs e_is_book.st) (defBody e_is_book.st) (defScope e_is_book.st) .none kV doc pm an cdv ct) ⟨us, []⟩ = pure (e_is_book.ps.zip us) := fun _ _ _ _ _ _ us hl => match us, hl with | [_], _ => rfl
theorem b_leaves_many : ∀ (kV doc pm : Value) (an : Option Addr) (cdv ct : Value) (us : List Value), us.length = e_leaves_many.ps.length → bindArgs (PySem.W.fnOf e_leaves_many.x e_leaves_many.x (defArgs e_leaves_many.st) (defBody e_leaves_many.st) (defScope e_leaves_many.st) .none kV doc pm an cdv ct) ⟨us, []⟩ = pure (e_leaves_many.ps.zip us) := fun _ _ _ _ _ _ us hl => match us, hl with | [_], _ => rfl
theorem b_lost_many : ∀ (kV doc pm : Value) (an : Option Addr) (cdv ct : Value) (us : List Value), us.length = e_lost_many.ps.length → bindArgs (PySem.W.fnOf e_lost_many.x e_lost_many.x (defArgs e_lost_many.st) (defBody e_lost_many.st) (defScope e_lost_many.st) .none kV doc pm an cdv ct) ⟨us, []⟩ = pure (e_lost_many.ps.zip us) := fun _ _ _ _ _ _ us hl => match us, hl with | [_], _ => rfl
theorem b_place_of : ∀ (kV doc pm : Value) (an : Option Addr) (cdv ct : Value) (us : List Value), us.length = e_place_of.ps.length → bindArgs (PySem.W.fnOf e_place_of.x e_place_of.x (defArgs e_place_of.st) (defBody e_place_of.st) (defScope e_place_of.st) .none kV doc pm an cdv ct) ⟨us, []⟩ = pure (e_place_of.ps.zip us) := fun _ _ _ _ _ _ us hl => match us, hl with | [_, _], _ => rfl
theorem b_mate_of : ∀ (kV doc pm : Value) (an : Option Addr) (cdv ct : Value) (us : List Value), us.length = e_mate_of.ps.length → bindArgs (PySem.W.fnOf e_mate_of.x e_mate_of.x (defArgs e_mate_of.st) (defBody e_mate_of.st) (defScope e_mate_of.st) .none kV doc pm an cdv ct) ⟨us, []⟩ = pure (e_mate_of.ps.zip us) := fun _ _ _ _ _ _ us hl => match us, hl with | [_, _], _ => rfl
theorem b_marks_of : ∀ (kV doc pm : Value) (an : Option Addr) (cdv ct : Value) (us : List Value), us.length = e_marks_of.ps.length → bindArgs (PySem.W.fnOf e_marks_of.x e_marks_of.x (defArgs e_marks_of.st) (defBody e_marks_of.st) (defScope e_marks_of.st) .none kV doc pm an cdv ct) ⟨us, []⟩ = pure (e_marks_of.ps.zip us) := fun _ _ _ _ _ _ us hl => match us, hl with | [_], _ => rfl
theorem b_sides_of : ∀ (kV doc pm : Value) (an : Option Addr) (cdv ct : Value) (us : List Value), us.length = e_sides_of.ps.length → bindArgs (PySem.W.fnOf e_sides_of.x e_sides_of.x (defArgs e_sides_of.st) (defBody e_sides_of.st) (defScope e_sides_of.st) .none kV doc pm an cdv ct) ⟨us, []⟩ = pure (e_sides_of.ps.zip us) := fun _ _ _ _ _ _ us hl => match us, hl with | [_, _], _ => rfl
theorem b_unlike_openings : ∀ (kV doc pm : Value) (an : Option Addr) (cdv ct : Value) (us : List Value), us.length = e_unlike_openings.ps.length → bindArgs (PySem.W.fnOf e_unlike_openings.x e_unlike_openings.x (defArgs e_unlike_openings.st) (defBody e_unlike_openings.st) (defScope e_unlike_openings.st) .none kV doc pm an cdv ct) ⟨us, []⟩ = pure (e_unlike_openings.ps.zip us) := fun _ _ _ _ _ _ us hl => match us, hl with | [_], _ => rfl
theorem b_does_fit : ∀ (kV doc pm : Value) (an : Option Addr) (cdv ct : Value) (us : List Value), us.length = e_does_fit.ps.length → bindArgs (PySem.W.fnOf e_does_fit.x e_does_fit.x (defArgs e_does_fit.st) (defBody e_does_fit.st) (defScope e_does_fit.st) .none kV doc pm an cdv ct) ⟨us, []⟩ = pure (e_does_fit.ps.zip us) := fun _ _ _ _ _ _ us hl => match us, hl with | [_, _], _ => rfl
theorem b__law_cup : ∀ (kV doc pm : Value) (an : Option Addr) (cdv ct : Value) (us : List Value), us.length = e__law_cup.ps.length → bindArgs (PySem.W.fnOf e__law_cup.x e__law_cup.x (defArgs e__law_cup.st) (defBody e__law_cup.st) (defScope e__law_cup.st) .none kV doc pm an cdv ct) ⟨us, []⟩ = pure (e__law_cup.ps.zip us) := fun _ _ _ _ _ _ us hl => match us, hl with | [_], _ => rfl
theorem b__law_roll : ∀ (kV doc pm : Value) (an : Option Addr) (cdv ct : Value) (us : List Value), us.length = e__law_roll.ps.length → bindArgs (PySem.W.fnOf e__law_roll.x e__law_roll.x (defArgs e__law_roll.st) (defBody e__law_roll.st) (defScope e__law_roll.st) .none kV doc pm an cdv ct) ⟨us, []⟩ = pure (e__law_roll.ps.zip us) := fun _ _ _ _ _ _ us hl => match us, hl with | [_, _], _ => rfl
theorem b__law_same : ∀ (kV doc pm : Value) (an : Option Addr) (cdv ct : Value) (us : List Value), us.length = e__law_same.ps.length → bindArgs (PySem.W.fnOf e__law_same.x e__law_same.x (defArgs e__law_same.st) (defBody e__law_same.st) (defScope e__law_same.st) .none kV doc pm an cdv ct) ⟨us, []⟩ = pure (e__law_same.ps.zip us) := fun _ _ _ _ _ _ us hl => match us, hl with | [_, _], _ => rfl
theorem b__law_book : ∀ (kV doc pm : Value) (an : Option Addr) (cdv ct : Value) (us : List Value), us.length = e__law_book.ps.length → bindArgs (PySem.W.fnOf e__law_book.x e__law_book.x (defArgs e__law_book.st) (defBody e__law_book.st) (defScope e__law_book.st) .none kV doc pm an cdv ct) ⟨us, []⟩ = pure (e__law_book.ps.zip us) := fun _ _ _ _ _ _ us hl => match us, hl with | [_, _, _], _ => rfl
theorem b__law_places : ∀ (kV doc pm : Value) (an : Option Addr) (cdv ct : Value) (us : List Value), us.length = e__law_places.ps.length → bindArgs (PySem.W.fnOf e__law_places.x e__law_places.x (defArgs e__law_places.st) (defBody e__law_places.st) (defScope e__law_places.st) .none kV doc pm an cdv ct) ⟨us, []⟩ = pure (e__law_places.ps.zip us) := fun _ _ _ _ _ _ us hl => match us, hl with | [_], _ => rfl
theorem b__law_mate : ∀ (kV doc pm : Value) (an : Option Addr) (cdv ct : Value) (us : List Value), us.length = e__law_mate.ps.length → bindArgs (PySem.W.fnOf e__law_mate.x e__law_mate.x (defArgs e__law_mate.st) (defBody e__law_mate.st) (defScope e__law_mate.st) .none kV doc pm an cdv ct) ⟨us, []⟩ = pure (e__law_mate.ps.zip us) := fun _ _ _ _ _ _ us hl => match us, hl with | [_, _, _], _ => rfl
theorem b_law : ∀ (kV doc pm : Value) (an : Option Addr) (cdv ct : Value) (us : List Value), us.length = e_law.ps.length → bindArgs (PySem.W.fnOf e_law.x e_law.x (defArgs e_law.st) (defBody e_law.st) (defScope e_law.st) .none kV doc pm an cdv ct) ⟨us, []⟩ = pure (e_law.ps.zip us) := fun _ _ _ _ _ _ us hl => match us, hl with | [_], _ => rfl
end K01
open PySem PySem.W PyProof.Rows
set_option maxHeartbeats 0 in
theorem PySem.Challenge.cw_quires_k01_whole_books_of_gatherings_holds : PySem.Challenge.rw_quires_k01_whole_books_of_gatherings.Holds := by
  w_on; o_law; k_head; (case hw => w_witness2)
  k_fill
  refine L2.walk_of (l := PySem.Challenge.rw_quires_k01_whole_books_of_gatherings) (n := 63) (k := 24) (x := "script") (CX := fun _ => L2.CX0) (sp := fun w => QE.spF _ (QE.callFn K01.prog 24) 27) rfl (by decide) rfl ⟨rfl, by decide, by decide⟩ (fun w h Y => PySem.W.kIn_of Y) ?F (fun w H a ns hl _ hS => QE.law_spec K01.told _ H a ns hl hS) (fun _ _ _ _ _ h => h)
  case F =>
    intro w mg fa h KX G hmg
    refine' QE.fin_mk (PG := K01.prog) (es := K01.ents) (cons := K01.cnames) (bis := K01.bis) (f := 27) (e := K01.e_law) hmg K01.checked ⟨QE.lie_mk (x := "is_whole") (qual := "is_whole") (st := K01.topS 6) (N := K01.sN K01.n_is_whole) (ps := K01.sN (K01.n_is_whole.take 1)) KX G ?a0 ?l0 ?c0 ?k0 K01.b_is_whole,
      QE.lie_mk (x := "fits_whole") (qual := "fits_whole") (st := K01.topS 7) (N := K01.sN K01.n_fits_whole) (ps := K01.sN (K01.n_fits_whole.take 3)) KX G ?a1 ?l1 ?c1 ?k1 K01.b_fits_whole,
      QE.lie_mk (x := "is_tuple_of") (qual := "is_tuple_of") (st := K01.topS 8) (N := K01.sN K01.n_is_tuple_of) (ps := K01.sN (K01.n_is_tuple_of.take 3)) KX G ?a2 ?l2 ?c2 ?k2 K01.b_is_tuple_of,
      QE.lie_mk (x := "is_rising") (qual := "is_rising") (st := K01.topS 9) (N := K01.sN K01.n_is_rising) (ps := K01.sN (K01.n_is_rising.take 1)) KX G ?a3 ?l3 ?c3 ?k3 K01.b_is_rising,
      QE.lie_mk (x := "fits_gathering") (qual := "fits_gathering") (st := K01.topS 14) (N := K01.sN K01.n_fits_gathering) (ps := K01.sN (K01.n_fits_gathering.take 1)) KX G ?a4 ?l4 ?c4 ?k4 K01.b_fits_gathering,
      QE.lie_mk (x := "fits_book") (qual := "fits_book") (st := K01.topS 15) (N := K01.sN K01.n_fits_book) (ps := K01.sN (K01.n_fits_book.take 1)) KX G ?a5 ?l5 ?c5 ?k5 K01.b_fits_book,
      QE.lie_mk (x := "need_book") (qual := "need_book") (st := K01.topS 16) (N := K01.sN K01.n_need_book) (ps := K01.sN (K01.n_need_book.take 1)) KX G ?a6 ?l6 ?c6 ?k6 K01.b_need_book,
      QE.lie_mk (x := "need_leaf") (qual := "need_leaf") (st := K01.topS 17) (N := K01.sN K01.n_need_leaf) (ps := K01.sN (K01.n_need_leaf.take 2)) KX G ?a7 ?l7 ?c7 ?k7 K01.b_need_leaf,
      QE.lie_mk (x := "places_in") (qual := "places_in") (st := K01.topS 18) (N := K01.sN K01.n_places_in) (ps := K01.sN (K01.n_places_in.take 1)) KX G ?a8 ?l8 ?c8 ?k8 K01.b_places_in,
      QE.lie_mk (x := "pairs_in") (qual := "pairs_in") (st := K01.topS 19) (N := K01.sN K01.n_pairs_in) (ps := K01.sN (K01.n_pairs_in.take 1)) KX G ?a9 ?l9 ?c9 ?k9 K01.b_pairs_in,
      QE.lie_mk (x := "lone_in") (qual := "lone_in") (st := K01.topS 20) (N := K01.sN K01.n_lone_in) (ps := K01.sN (K01.n_lone_in.take 1)) KX G ?a10 ?l10 ?c10 ?k10 K01.b_lone_in,
      QE.lie_mk (x := "fits_marks") (qual := "fits_marks") (st := K01.topS 21) (N := K01.sN K01.n_fits_marks) (ps := K01.sN (K01.n_fits_marks.take 2)) KX G ?a11 ?l11 ?c11 ?k11 K01.b_fits_marks,
      QE.lie_mk (x := "is_book") (qual := "is_book") (st := K01.topS 22) (N := K01.sN K01.n_is_book) (ps := K01.sN (K01.n_is_book.take 1)) KX G ?a12 ?l12 ?c12 ?k12 K01.b_is_book,
      QE.lie_mk (x := "leaves_many") (qual := "leaves_many") (st := K01.topS 23) (N := K01.sN K01.n_leaves_many) (ps := K01.sN (K01.n_leaves_many.take 1)) KX G ?a13 ?l13 ?c13 ?k13 K01.b_leaves_many,
      QE.lie_mk (x := "lost_many") (qual := "lost_many") (st := K01.topS 24) (N := K01.sN K01.n_lost_many) (ps := K01.sN (K01.n_lost_many.take 1)) KX G ?a14 ?l14 ?c14 ?k14 K01.b_lost_many,
      QE.lie_mk (x := "place_of") (qual := "place_of") (st := K01.topS 25) (N := K01.sN K01.n_place_of) (ps := K01.sN (K01.n_place_of.take 2)) KX G ?a15 ?l15 ?c15 ?k15 K01.b_place_of,
      QE.lie_mk (x := "mate_of") (qual := "mate_of") (st := K01.topS 26) (N := K01.sN K01.n_mate_of) (ps := K01.sN (K01.n_mate_of.take 2)) KX G ?a16 ?l16 ?c16 ?k16 K01.b_mate_of,
      QE.lie_mk (x := "marks_of") (qual := "marks_of") (st := K01.topS 27) (N := K01.sN K01.n_marks_of) (ps := K01.sN (K01.n_marks_of.take 1)) KX G ?a17 ?l17 ?c17 ?k17 K01.b_marks_of,
      QE.lie_mk (x := "sides_of") (qual := "sides_of") (st := K01.topS 28) (N := K01.sN K01.n_sides_of) (ps := K01.sN (K01.n_sides_of.take 2)) KX G ?a18 ?l18 ?c18 ?k18 K01.b_sides_of,
      QE.lie_mk (x := "unlike_openings") (qual := "unlike_openings") (st := K01.topS 29) (N := K01.sN K01.n_unlike_openings) (ps := K01.sN (K01.n_unlike_openings.take 1)) KX G ?a19 ?l19 ?c19 ?k19 K01.b_unlike_openings,
      QE.lie_mk (x := "does_fit") (qual := "does_fit") (st := K01.topS 30) (N := K01.sN K01.n_does_fit) (ps := K01.sN (K01.n_does_fit.take 2)) KX G ?a20 ?l20 ?c20 ?k20 K01.b_does_fit,
      QE.lie_mk (x := "_law_cup") (qual := "_law_cup") (st := K01.topS 32) (N := K01.sN K01.n__law_cup) (ps := K01.sN (K01.n__law_cup.take 1)) KX G ?a21 ?l21 ?c21 ?k21 K01.b__law_cup,
      QE.lie_mk (x := "_law_roll") (qual := "_law_roll") (st := K01.topS 33) (N := K01.sN K01.n__law_roll) (ps := K01.sN (K01.n__law_roll.take 2)) KX G ?a22 ?l22 ?c22 ?k22 K01.b__law_roll,
      QE.lie_mk (x := "_law_same") (qual := "_law_same") (st := K01.topS 35) (N := K01.sN K01.n__law_same) (ps := K01.sN (K01.n__law_same.take 2)) KX G ?a23 ?l23 ?c23 ?k23 K01.b__law_same,
      QE.lie_mk (x := "_law_book") (qual := "_law_book") (st := K01.topS 36) (N := K01.sN K01.n__law_book) (ps := K01.sN (K01.n__law_book.take 3)) KX G ?a24 ?l24 ?c24 ?k24 K01.b__law_book,
      QE.lie_mk (x := "_law_places") (qual := "_law_places") (st := K01.topS 37) (N := K01.sN K01.n__law_places) (ps := K01.sN (K01.n__law_places.take 1)) KX G ?a25 ?l25 ?c25 ?k25 K01.b__law_places,
      QE.lie_mk (x := "_law_mate") (qual := "_law_mate") (st := K01.topS 38) (N := K01.sN K01.n__law_mate) (ps := K01.sN (K01.n__law_mate.take 3)) KX G ?a26 ?l26 ?c26 ?k26 K01.b__law_mate,
      QE.lie_mk (x := "law") (qual := "law") (st := K01.topS 39) (N := K01.sN K01.n_law) (ps := K01.sN (K01.n_law.take 1)) KX G ?a27 ?l27 ?c27 ?k27 K01.b_law, trivial⟩ ⟨QE.con_mk KX G ?q0 ?r0, QE.con_mk KX G ?q1 ?r1, QE.con_mk KX G ?q2 ?r2, trivial⟩ ⟨PySem.W.mg_none_of KX G ?z0, PySem.W.mg_none_of KX G ?z1, PySem.W.mg_none_of KX G ?z2, PySem.W.mg_none_of KX G ?z3, PySem.W.mg_none_of KX G ?z4, PySem.W.mg_none_of KX G ?z5, PySem.W.mg_none_of KX G ?z6, PySem.W.mg_none_of KX G ?z7, PySem.W.mg_none_of KX G ?z8, PySem.W.mg_none_of KX G ?z9, PySem.W.mg_none_of KX G ?z10, PySem.W.mg_none_of KX G ?z11, PySem.W.mg_none_of KX G ?z12, PySem.W.mg_none_of KX G ?z13, trivial⟩ rfl rfl rfl (fun _ _ _ _ _ _ _ _ => rfl)
    (case a0 => k_is)
    (case l0 => k_is)
    (case c0 => k_is)
    (case k0 => k_is)
    (case a1 => k_is)
    (case l1 => k_is)
    (case c1 => k_is)
    (case k1 => k_is)
    (case a2 => k_is)
    (case l2 => k_is)
    (case c2 => k_is)
    (case k2 => k_is)
    (case a3 => k_is)
    (case l3 => k_is)
    (case c3 => k_is)
    (case k3 => k_is)
    (case a4 => k_is)
    (case l4 => k_is)
    (case c4 => k_is)
    (case k4 => k_is)
    (case a5 => k_is)
    (case l5 => k_is)
    (case c5 => k_is)
    (case k5 => k_is)
    (case a6 => k_is)
    (case l6 => k_is)
    (case c6 => k_is)
    (case k6 => k_is)
    (case a7 => k_is)
    (case l7 => k_is)
    (case c7 => k_is)
    (case k7 => k_is)
    (case a8 => k_is)
    (case l8 => k_is)
    (case c8 => k_is)
    (case k8 => k_is)
    (case a9 => k_is)
    (case l9 => k_is)
    (case c9 => k_is)
    (case k9 => k_is)
    (case a10 => k_is)
    (case l10 => k_is)
    (case c10 => k_is)
    (case k10 => k_is)
    (case a11 => k_is)
    (case l11 => k_is)
    (case c11 => k_is)
    (case k11 => k_is)
    (case a12 => k_is)
    (case l12 => k_is)
    (case c12 => k_is)
    (case k12 => k_is)
    (case a13 => k_is)
    (case l13 => k_is)
    (case c13 => k_is)
    (case k13 => k_is)
    (case a14 => k_is)
    (case l14 => k_is)
    (case c14 => k_is)
    (case k14 => k_is)
    (case a15 => k_is)
    (case l15 => k_is)
    (case c15 => k_is)
    (case k15 => k_is)
    (case a16 => k_is)
    (case l16 => k_is)
    (case c16 => k_is)
    (case k16 => k_is)
    (case a17 => k_is)
    (case l17 => k_is)
    (case c17 => k_is)
    (case k17 => k_is)
    (case a18 => k_is)
    (case l18 => k_is)
    (case c18 => k_is)
    (case k18 => k_is)
    (case a19 => k_is)
    (case l19 => k_is)
    (case c19 => k_is)
    (case k19 => k_is)
    (case a20 => k_is)
    (case l20 => k_is)
    (case c20 => k_is)
    (case k20 => k_is)
    (case a21 => k_is)
    (case l21 => k_is)
    (case c21 => k_is)
    (case k21 => k_is)
    (case a22 => k_is)
    (case l22 => k_is)
    (case c22 => k_is)
    (case k22 => k_is)
    (case a23 => k_is)
    (case l23 => k_is)
    (case c23 => k_is)
    (case k23 => k_is)
    (case a24 => k_is)
    (case l24 => k_is)
    (case c24 => k_is)
    (case k24 => k_is)
    (case a25 => k_is)
    (case l25 => k_is)
    (case c25 => k_is)
    (case k25 => k_is)
    (case a26 => k_is)
    (case l26 => k_is)
    (case c26 => k_is)
    (case k26 => k_is)
    (case a27 => k_is)
    (case l27 => k_is)
    (case c27 => k_is)
    (case k27 => k_is)
    (case q0 => k_is)
    (case r0 => exact ⟨_, rfl⟩)
    (case q1 => k_is)
    (case r1 => exact ⟨_, rfl⟩)
    (case q2 => k_is)
    (case r2 => exact ⟨_, rfl⟩)
    (case z0 => k_is)
    (case z1 => k_is)
    (case z2 => k_is)
    (case z3 => k_is)
    (case z4 => k_is)
    (case z5 => k_is)
    (case z6 => k_is)
    (case z7 => k_is)
    (case z8 => k_is)
    (case z9 => k_is)
    (case z10 => k_is)
    (case z11 => k_is)
    (case z12 => k_is)
    (case z13 => k_is)
