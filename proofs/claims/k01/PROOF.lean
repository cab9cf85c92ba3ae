import PyProof.Rows.All
import HandS.ForMost
import HandS.IsInst
import HandS.FStr
import HandS.Deep
import HandS.Conv
import HandS.Codes
import HandS.Defaults
import HandS.Property
import HandS.DictComp
import HandS.ExcInit
import HandS.Zip
import HandS.Lambda
import HandS.TupAny
import KE.KDictPairs
import PyProof.CallFns
import PyProof.ReprRoads
import HandS.More
import HandS.CallLocal
import HandS.MakeKw
import HandS.MakeKwOnly
import OpenK.KMore
import HandS.TryOnly
import HandS.Style
import HandS.Iter
import HandS.Nested
import KE.GoesEnum
import KE.GoesMore
import PyProof.EnumMake
import OpenK.KOps
import OpenK.KMeth
import OpenK.KWalk
import OpenK.KLine
import PyProof.InstEq
import PyProof.InstNe
import HandS.HeadNt
import HandS.HeadHook4
import HandS.EndTab
import HandS.Head0
import HandS.Head1
import HandS.Head2
import HandS.EndBits
import PySem.Challenge.RW_lookbacks_k01_plans_made
set_option Elab.async false
set_option linter.all false
section
namespace MP
open PySem

/-- a constant of the code -/
inductive K where
  | non | bl (b : Bool) | int (i : Int) | str (s : Str) | fn (f : Str)
  | tup (xs : List K) | dic (kvs : List (K × K))

/-- a type that isinstance asks for -/
inductive Ty where
  | blt (n : String) | own (c : Str)
  deriving DecidableEq

inductive Tg where
  | nm (i : Nat) | tp (is : List Nat)

/-- the built-ins that are called by name -/
inductive Bi where
  | len | tuple | list | dict | int | str | abs | max | min | sum | all | any | repr
mutual
inductive E where
  | var (i : Nat)
  | con (d : K)
  | tup (es : Es)
  | lst (es : Es) (m : Bool)
  | bin (op : Operator) (a b : E)
  | neg (a : E)
  | nt (a : E)
  | an (es : Es)
  | orr (es : Es)
  | ite (c : T) (a b : E)
  | cmp (op : CmpOp) (a b : E)
  | chain (o1 o2 : CmpOp) (a b c : E)
  | idx (a i : E)
  | slc (a : E) (lo hi : Eo)
  | call (f : Str) (es : Es) (dv : List K)
  | callv (i : Nat) (es : Es)
  | calll (f : Str) (es : Es) (x : E) (sz np : Nat) (caps : List Nat)
  | mk (c : Str) (es : Es) (dv : List K)
  | mkk (c : Str) (es ks : Es) (nn : List Str)
  | callk (f : Str) (es ks : Es) (nn : List Str)
  | mthk (o : E) (m : Str) (es ks : Es) (nn : List Str)
  | mth (o : E) (m : Str) (es : Es)
  | app (o x : E)
  | popi (o i : E)
  | blt (f : Bi) (es : Es)
  | isi (a : E) (ts : List Ty)
  | att (o : E) (f : Str)
  | comp (elt : E) (t : Tg) (it : It) (ifs : To) (own : List Nat) (m : Bool)
  | comp2 (elt : E) (t : Tg) (it : It) (ifs : To) (t2 : Tg) (it2 : It) (ifs2 : To) (own own2 : List Nat) (m : Bool)
  | dcomp (k v : E) (t : Tg) (it : It) (ifs : To) (own : List Nat)
  | fmt (e : E)
  | fstr (es : Es)
  | kin (neg : Bool) (x : E) (kvs : List (Str × K))
  | kix (x : E) (kvs : List (Str × K))
  | lsm (x : E)
  | bot
inductive T where
  | e (x : E) | tv (x : E) | nt (t : T) | an (ts : Ts) | orr (ts : Ts)
inductive Ts where
  | one (t : T) | cons (t : T) (ts : Ts)
inductive To where
  | none | some (t : T)
inductive Es where
  | nil | cons (e : E) (es : Es)
inductive Eo where
  | none | some (e : E)
inductive It where
  | seq (e : E) | rng (a : E) | rng2 (a b : E) | enm (a : E) | zip (a b : E) 
end

mutual
inductive S where
  | expr (e : E)
  | asg (t : Tg) (e : E)
  | ret (e : E)
  | ife (c : T) (a b : Ss)
  | for (t : Tg) (it : It) (b : Ss)
  | pas | brk | cnt
  | rse (c : Str) (es : Es)
  | seta (o : E) (f : Str) (e : E)
  | seti (o i e : E)
  | aug (i : Nat) (op : Operator) (e : E)
  | par (is : List Nat) (es : Es)
inductive Ss where
  | nil | cons (s : S) (ss : Ss)
end

/-- data by value; ref n: an object of the store; scr: the script; lam x sz np caps: a lambda with the code x, sz slots, np parameters, and what it captured -/
inductive D where
  | non | bl (b : Bool) | int (i : Int) | str (s : Str)
  | tup (xs : List D) | lst (xs : List D) | dic (kvs : List (D × D))
  | ins (c : Str) (fs : List (Str × D))
  | ref (n : Nat) | cls (c : Str) | fn (f : Str) | lam (x : E) (sz np : Nat) (caps : List D) | scr (ns : List Int)
def isLam : D → Bool
  | .lam _ _ _ _ => true
  | _ => false
mutual
def K.toD : K → D
  | .non => .non
  | .bl b => .bl b
  | .int i => .int i
  | .str s => .str s
  | .fn f => .fn f
  | .tup xs => .tup (K.toDs xs)
  | .dic kvs => .dic (K.toDk kvs)
def K.toDs : List K → List D
  | [] => []
  | x :: xs => x.toD :: K.toDs xs
def K.toDk : List (K × K) → List (D × D)
  | [] => []
  | (x, y) :: xs => (x.toD, y.toD) :: K.toDk xs
end

inductive Cell where
  | lst (xs : List D) | ins (c : Str) (fs : List (Str × D)) | exn (c : Str) (fs : List (Str × D))

inductive Res (α : Type) where
  | ok (a : α) (c : List Cell)
  | exc (x : Str) (fs : List (Str × D)) (c : List Cell)
  | bad

namespace Res
variable {α β : Type}
def bind (r : Res α) (k : α → List Cell → Res β) : Res β := match r with
  | .ok a c => k a c
  | .exc x fs c => .exc x fs c
  | .bad => .bad
@[simp] theorem bind_ok (a : α) (c : List Cell) (k : α → List Cell → Res β) : (Res.ok a c).bind k = k a c := rfl
@[simp] theorem bind_exc (x : Str) (fs : List (Str × D)) (c : List Cell) (k : α → List Cell → Res β) : (Res.exc x fs c : Res α).bind k = .exc x fs c := rfl
@[simp] theorem bind_bad (k : α → List Cell → Res β) : (Res.bad : Res α).bind k = .bad := rfl
end Res

/-- what is walked: items, or a list of the store -/
inductive Wk where
  | xs (l : List D) | sto (n len : Nat)
abbrev Env := List (Option D)
inductive Fl where
  | nx (γ : Env) | bk (γ : Env) | ct (γ : Env) | rt (d : D)

inductive Mode where
  | keep | pure | trunc
  deriving DecidableEq

structure Fun where
  N : List Str
  np : Nat
  body : Ss
  mode : Mode

/-- what stands: the defs (also methods, by their qualified names), the classes' methods and properties, which classes are below which -/
structure Prog where
  fun? : Str → Option Fun
  prop : Str → Str → Option Str        -- class, name: the getter's qualified name
  meth : Str → Str → Option Str        -- class, name: the method's qualified name
  cmeth : Str → Str → Option Str       -- class, name: the class method's qualified name
  fld : Str → Str → Bool               -- class, name: a name that no class of it has
  init : Str → Option (Option Str)     -- class: its __init__, or object's
  exc : Str → Bool                     -- an exception's class
  below : Str → Ty → Option Bool       -- isinstance of an instance of the class
  kw : Str → Nat → List Str → Option (List Nat × List D)   -- a def, how many positional arguments, the keywords: where each parameter lies, the defaults

def sizeLine : Nat := 16777216

mutual
def closed (b : Nat) : D → Bool
  | .tup xs => closedL b xs
  | .lst xs => closedL b xs
  | .dic kvs => closedK b kvs
  | .ins _ fs => closedF b fs
  | .ref n => Nat.blt n b
  | .lam _ _ _ caps => closedL b caps
  | _ => true
def closedL (b : Nat) : List D → Bool
  | [] => true
  | x :: xs => closed b x && closedL b xs
def closedK (b : Nat) : List (D × D) → Bool
  | [] => true
  | (k, x) :: xs => closed b k && (closed b x && closedK b xs)
def closedF (b : Nat) : List (Str × D) → Bool
  | [] => true
  | (_, x) :: xs => closed b x && closedF b xs
end
def Cell.closed (b : Nat) : Cell → Bool
  | .lst xs => closedL b xs
  | .ins _ fs => closedF b fs
  | .exn _ fs => closedF b fs

def cellAt (b : Nat) (c : List Cell) (n : Nat) : Option Cell := if b ≤ n then c[n - b]? else none

/-- the items of a list or tuple -/
def seqOf (b : Nat) (c : List Cell) : D → Option (List D)
  | .tup xs => some xs
  | .lst xs => some xs
  | .ref n => match cellAt b c n with
    | some (.lst xs) => some xs
    | _ => none
  | .scr ns => some (ns.map .int)
  | _ => none

/-- let go of the objects from b on: a list of closed things is kept by value -/
def freeze (b : Nat) (c : List Cell) : D → Option D
  | .ref n => if n < b then some (.ref n) else match cellAt b c n with
    | some (.lst xs) => if closedL b xs then some (.lst xs) else none
    | _ => none
  | d => if closed b d then some d else none

def b2i (b : Bool) : Int := if b then 1 else 0
mutual
/-- data that == asks -/
def toP : D → Option PyData
  | .non => some .none
  | .bl b => some (.bool b)
  | .int i => some (.int i)
  | .str s => some (.str s)
  | .tup xs => (toPs xs).map .tuple
  | .lst xs => (toPs xs).map .list
  | _ => none
def toPs : List D → Option (List PyData)
  | [] => some []
  | x :: xs => match toP x, toPs xs with
    | some y, some ys => some (y :: ys)
    | _, _ => none
end
/-- a list of the store as data -/
def deref (b : Nat) (c : List Cell) : D → D
  | .ref n => match cellAt b c n with
    | some (.lst xs) => .lst xs
    | _ => .ref n
  | d => d
def eqSem (b : Nat) (c : List Cell) (x y : D) : Option Bool :=
  match toP (deref b c x), toP (deref b c y) with
  | some p, some q => if SeqAt.shaped p && SeqAt.shaped q then some (PyData.eqv p q) else none
  | _, _ => none

def isNon : D → Bool
  | .non => true
  | _ => false
def flat : D → Bool
  | .non => true
  | .bl _ => true
  | .int _ => true
  | .str _ => true
  | _ => false
def eqF : D → D → Bool
  | .non, .non => true
  | .bl a, .bl b => a == b
  | .bl a, .int b => (if a then 1 else 0) == b
  | .int a, .bl b => a == (if b then 1 else 0)
  | .int a, .int b => a == b
  | .str a, .str b => a == b
  | _, _ => false
def inStr (x y : Str) : Bool := !(Builtin.Str.occurrences y x 0 y.length 1).isEmpty
/-- a text key -/
def keyOf : D → Option L2.Key
  | .int i => some (.inl i)
  | .str s => some (.inr s)
  | _ => none
def keysOf : List (D × D) → Option (List (L2.Key × D))
  | [] => some []
  | (k, x) :: r => match keyOf k, keysOf r with
    | some k, some r => some ((k, x) :: r)
    | _, _ => none
def look {α : Type} (kvs : List (L2.Key × α)) (k : L2.Key) : Option α := (kvs.find? fun kv => decide (kv.1 = k)).map (·.2)
def inSem (b : Nat) (c : List Cell) (x y : D) : Option Bool :=
  match y with
  | .str z => match x with
    | .str w => some (inStr w z)
    | _ => none
  | .dic kvs => match keyOf x, keysOf kvs with
    | some k, some kvs => some (look kvs k).isSome
    | _, _ => none
  | y => match seqOf b c y with
    | some ys => if flat x && ys.all flat then some (ys.any fun z => eqF z x) else none
    | none => none

def cmpSem (op : CmpOp) (b : Nat) (c : List Cell) (x y : D) : Option Bool :=
  match op with
  | .Eq => eqSem b c x y
  | .NotEq => (eqSem b c x y).map (!·)
  | .Lt => match x, y with
    | .int i, .int j => some (decide (i < j))
    | _, _ => none
  | .LtE => match x, y with
    | .int i, .int j => some (decide (i ≤ j))
    | _, _ => none
  | .Gt => match x, y with
    | .int i, .int j => some (decide (j < i))
    | _, _ => none
  | .GtE => match x, y with
    | .int i, .int j => some (decide (j ≤ i))
    | _, _ => none
  | .Is => if isNon y then some (isNon x) else none
  | .IsNot => if isNon y then some (!isNon x) else none
  | .In => inSem b c x y
  | .NotIn => (inSem b c x y).map (!·)

def small64 (i : Int) : Bool := decide (-(2 ^ 64) < i) && decide (i < 2 ^ 64)
def binSem (op : Operator) (b : Nat) (c : List Cell) (x y : D) : Option D :=
  match op with
  | .Add => match x, y with
    | .int i, .int j => some (.int (i + j))
    | .str s, .str t => if s.length + t.length ≤ sizeLine then some (.str (s ++ t)) else none
    | .tup xs, .tup ys => if xs.length + ys.length ≤ sizeLine then some (.tup (xs ++ ys)) else none
    | x, y => match deref b c x, deref b c y with
      | .lst xs, .lst ys => if xs.length + ys.length ≤ sizeLine then some (.lst (xs ++ ys)) else none
      | _, _ => none
  | .Sub => match x, y with
    | .int i, .int j => some (.int (i - j))
    | _, _ => none
  | .Mult => match x, y with
    | .int i, .int j => if small64 i || small64 j then some (.int (i * j)) else none
    | x, .int k => match deref b c x with
      | .lst xs => if decide (-(2 ^ 63) ≤ k) && (decide (k < 2 ^ 63) && decide (xs.length * k.toNat ≤ sizeLine)) then some (.lst (List.replicate k.toNat xs).flatten) else none
      | _ => none
    | _, _ => none
  | .FloorDiv => match x, y with
    | .int i, .int j => if decide (0 < j) && decide (j < 1073741824) then some (.int (i / j)) else none
    | _, _ => none
  | .Mod => match x, y with
    | .int i, .int j => if 0 < j then some (.int (i % j)) else none
    | _, _ => none
  | .Pow => match x, y with
    | .int i, .int j => if decide (0 ≤ j) && (decide (j ≤ 1000000) && decide (i.natAbs < 2 ^ 64)) then some (.int (i ^ j.toNat)) else none
    | _, _ => none
  | _ => none

def ixSem (b : Nat) (c : List Cell) (x i : D) : Option D :=
  match x with
  | .str z => match i with
    | .int i => if z.length ≤ sizeLine then (L2.atI z.cps.toList i).map fun c => .str ⟨#[c]⟩ else none
    | _ => none
  | .dic kvs => match keyOf i, keysOf kvs with
    | some k, some kvs => look kvs k
    | _, _ => none
  | x => match i, seqOf b c x with
    | .int i, some xs => L2.atI xs i
    | _, _ => none

def cutD {α : Type} (xs : List α) (lo hi : Option Int) : List α := (xs.drop (HT.sIx xs.length 0 lo)).take (HT.sIx xs.length xs.length hi - HT.sIx xs.length 0 lo)
def slSem (b : Nat) (c : List Cell) (x : D) (lo hi : Option Int) : Option D :=
  match x with
  | .str z => if z.length ≤ sizeLine then some (.str (Txt.slice z lo hi)) else none
  | .tup xs => some (.tup (cutD xs lo hi))
  | .scr ns => some (.lst ((cutD ns lo hi).map .int))
  | x => match deref b c x with
    | .lst xs => some (.lst (cutD xs lo hi))
    | _ => none
def partOf : D → Option (Option Int)
  | .int i => some (some i)
  | _ => none

def tyName : D → Option String
  | .non => some "NoneType"
  | .bl _ => some "bool"
  | .int _ => some "int"
  | .str _ => some "str"
  | .tup _ => some "tuple"
  | .lst _ => some "list"
  | .dic _ => some "dict"
  | .scr _ => some "list"
  | _ => none
def tyB (m : String) : Ty → Option Bool
  | .blt n => L2.kitB m n
  | .own _ => some false
def kitT (a b : String) : Option Bool := L2.kitB a b
end MP
end
section
namespace MP
open PySem

/-- a call of a def by its qualified name: all its parameters, the store's base and cells -/
structure Call where
  fn : Str → List D → Nat → List Cell → Res D
  lm : E → List (Option D) → Nat → List Cell → Res D
instance : CoeFun Call (fun _ => Str → List D → Nat → List Cell → Res D) := ⟨Call.fn⟩

def ofOpt {α : Type} (o : Option α) (c : List Cell) : Res α := match o with
  | some a => .ok a c
  | none => .bad
@[simp] theorem ofOpt_some {α : Type} (a : α) (c : List Cell) : ofOpt (some a) c = .ok a c := rfl
@[simp] theorem ofOpt_none {α : Type} (c : List Cell) : ofOpt (none : Option α) c = .bad := rfl

/-- a new list: by value, or in the store -/
def newLst (m : Bool) (xs : List D) (b : Nat) (c : List Cell) : Res D :=
  if xs.length ≤ sizeLine then (match m with
    | false => .ok (.lst xs) c
    | true => .ok (.ref (b + c.length)) (c ++ [.lst xs])) else .bad

def bool? : D → Option Bool
  | .bl b => some b
  | _ => none

def wipeE (γ : Env) : List Nat → Env
  | [] => γ
  | v :: vs => (wipeE γ vs).set v none

/-- store a value by a target -/
def asgT : Tg → D → Env → Option Env
  | .nm i, d, γ => if i < γ.length then some (γ.set i (some d)) else none
  | .tp is, .tup xs, γ => asgL is xs γ
  | .tp is, .lst xs, γ => asgL is xs γ
  | .tp _, _, _ => none
where asgL : List Nat → List D → Env → Option Env
  | [], [], γ => some γ
  | i :: is, x :: xs, γ => if i < γ.length then asgL is xs (γ.set i (some x)) else none
  | _, _, _ => none

/-- isinstance -/
def isTy (P : Prog) (b : Nat) (c : List Cell) (x : D) (t : Ty) : Option Bool :=
  match x with
  | .ins cn _ => P.below cn t
  | .ref n => match cellAt b c n with
    | some (.lst _) => tyB "list" t
    | some (.ins cn _) => P.below cn t
    | _ => none
  | x => (tyName x).bind fun m => tyB m t

def fieldOf (b : Nat) (c : List Cell) (x : D) (f : Str) : Option D :=
  match x with
  | .ins _ fs => fs.lookup f
  | .ref n => match cellAt b c n with
    | some (.ins _ fs) => fs.lookup f
    | _ => none
  | _ => none
def classOf (b : Nat) (c : List Cell) (x : D) : Option Str :=
  match x with
  | .ins cn _ => some cn
  | .ref n => match cellAt b c n with
    | some (.ins cn _) => some cn
    | _ => none
  | _ => none

def intsOf : List D → Option (List Int)
  | [] => some []
  | .int i :: r => (intsOf r).map (i :: ·)
  | _ :: _ => none
def boolsOf : List D → Option (List Bool)
  | [] => some []
  | .bl b :: r => (boolsOf r).map (b :: ·)
  | _ :: _ => none
def strsOf : List D → Option (List Str)
  | [] => some []
  | .str s :: r => (strsOf r).map (s :: ·)
  | _ :: _ => none
/-- pairs of a key and a value, put into a dict one after another -/
def putD (kvs : List (L2.Key × D)) (k : L2.Key) (v : D) : List (L2.Key × D) :=
  if kvs.any fun kv => decide (kv.1 = k) then kvs.map fun kv => if kv.1 = k then (kv.1, v) else kv else kvs ++ [(k, v)]
def kD : L2.Key → D
  | .inl i => .int i
  | .inr s => .str s
def dictOf (kvs : List (L2.Key × D)) : D := .dic (kvs.map fun kv => (kD kv.1, kv.2))
/-- pairs whose first parts are keys -/
def prsOf : List D → Option (List (L2.Key × D))
  | [] => some []
  | .tup [k, v] :: r => match keyOf k, prsOf r with
    | some k, some ps => some ((k, v) :: ps)
    | _, _ => none
  | _ :: _ => none
def mergeD (ps : List (L2.Key × D)) : List (L2.Key × D) := ps.foldl (fun acc p => putD acc p.1 p.2) []

def lenSem (b : Nat) (c : List Cell) (x : D) : Option Nat :=
  match x with
  | .str s => if s.length ≤ sizeLine then some s.length else none
  | .dic kvs => some kvs.length
  | x => (seqOf b c x).map fun xs : List D => xs.length
def listSem (b : Nat) (c : List Cell) (x : D) : Option D := match x with
  | .dic kvs => some (.lst (kvs.map (·.1)))
  | x => (seqOf b c x).map .lst
def dictSem (b : Nat) (c : List Cell) (x : D) : Option D := ((seqOf b c x).bind prsOf).map fun ps => dictOf (mergeD ps)
def intSem (x : D) : Option D := match x with
  | .int i => some (.int i)
  | .bl k => some (.int (b2i k))
  | .str s => if s.length ≤ 640 then (intText? s).map .int else none
  | _ => none
def strSem (x : D) : Option D := match x with
  | .int i => if i.natAbs.log2 < 1920 then some (.str (toString i)) else none
  | _ => none
def absSem (x : D) : Option D := match x with
  | .int i => some (.int (if i < 0 then -i else i))
  | _ => none
def maxSem (x y : D) : Option D := match x, y with
  | .int i, .int j => some (.int (if j > i then j else i))
  | _, _ => none
def minSem (x y : D) : Option D := match x, y with
  | .int i, .int j => some (.int (if j < i then j else i))
  | _, _ => none
/-- a list's items, not a tuple's -/
def lstOf (b : Nat) (c : List Cell) (x : D) : Option (List D) := match x with
  | .tup _ => none
  | x => seqOf b c x
def sumSem (b : Nat) (c : List Cell) (x : D) : Option D := ((lstOf b c x).bind intsOf).map fun ns => .int ns.sum
def allSem (b : Nat) (c : List Cell) (x : D) : Option D := ((lstOf b c x).bind boolsOf).map fun bs => .bl (bs.all id)
def anySem (b : Nat) (c : List Cell) (x : D) : Option D := ((lstOf b c x).bind boolsOf).map fun bs => .bl (bs.any id)
/-- the text of data -/
def reprSem (b : Nat) (c : List Cell) (x : D) : Option D := match toP (deref b c x) with
  | some p => if p.showable && (!p.hasDict && (decide (p.shown.length ≤ sizeLine) && decide (p.depth ≤ 100))) then some (.str p.shown) else none
  | none => none
def bltSem (f : Bi) (ds : List D) (b : Nat) (c : List Cell) : Option D :=
  match f, ds with
  | .len, [x] => (lenSem b c x).map fun n : Nat => .int (n : Int)
  | .tuple, [x] => (seqOf b c x).map .tup
  | .list, [x] => listSem b c x
  | .dict, [x] => dictSem b c x
  | .int, [x] => intSem x
  | .str, [x] => strSem x
  | .abs, [x] => absSem x
  | .max, [x, y] => maxSem x y
  | .min, [x, y] => minSem x y
  | .sum, [x] => sumSem b c x
  | .all, [x] => allSem b c x
  | .any, [x] => anySem b c x
  | .repr, [x] => reprSem b c x
  | _, _ => none

def setC (b : Nat) (c : List Cell) (n : Nat) (x : Cell) : List Cell := c.set (n - b) x
def lstCell (b : Nat) (c : List Cell) : D → Option (List D)
  | .ref n => match cellAt b c n with
    | some (.lst xs) => some xs
    | _ => none
  | _ => none
/-- a method of a value that is no instance of an own class -/
def mthSem (o : D) (m : Str) (ds : List D) (b : Nat) (c : List Cell) : Res D :=
  match o with
  | .str s =>
    if m = "split" then (match ds with
      | [.str t] => if (t.length == 0) = false ∧ s.length + 2 ≤ sizeLine then .ok (.lst ((Txt.split s t).map .str)) c else .bad
      | _ => .bad)
    else if m = "partition" then (match ds with
      | [.str t] => if (t.length == 0) = false ∧ s.length ≤ sizeLine then .ok (.tup [.str (Txt.partition s t).1, .str (Txt.partition s t).2.1, .str (Txt.partition s t).2.2]) c else .bad
      | _ => .bad)
    else if m = "join" then (match ds with
      | [x] => match (seqOf b c x).bind strsOf with
        | some ys => if (ys.map (·.length)).sum + ys.length * s.length ≤ 16777216 then .ok (.str (Txt.join s ys)) c else .bad
        | none => .bad
      | _ => .bad)
    else .bad
  | .ref n => match cellAt b c n with
    | some (.lst xs) =>
      if m = "append" then (match ds with
        | [x] => if xs.length < sizeLine then .ok .non (setC b c n (.lst (xs ++ [x]))) else .bad
        | _ => .bad)
      else if m = "pop" then (match ds with
        | [] => match xs[xs.length - 1]? with
          | some y => .ok y (setC b c n (.lst xs.dropLast))
          | none => .bad
        | [.int i] => if decide (-(2 ^ 63) ≤ i) && decide (i < 2 ^ 63) then (match L2.ixN xs.length i with
          | some k => match xs[k]? with
            | some y => .ok y (setC b c n (.lst (xs.eraseIdx k)))
            | none => .bad
          | none => .bad) else .bad
        | _ => .bad)
      else .bad
    | _ => .bad
  | .dic kvs =>
    if m = "get" then (match ds with
      | [k, d] => match keyOf k, keysOf kvs with
        | some k, some kvs => .ok ((look kvs k).getD d) c
        | _, _ => .bad
      | [k] => match keyOf k, keysOf kvs with
        | some k, some kvs => .ok ((look kvs k).getD .non) c
        | _, _ => .bad
      | _ => .bad)
    else .bad
  | _ => .bad

def strOfD : D → Option Str
  | .str s => if s.length ≤ sizeLine then some s else none
  | .int i => if i.natAbs.log2 < 1920 then some (toString i) else none
  | _ => none

/-- no exception leaves a comprehension -/
def noExc {α : Type} : Res α → Res α
  | .ok a c => .ok a c
  | _ => .bad
@[simp] theorem noExc_ok {α : Type} (a : α) (c : List Cell) : noExc (.ok a c) = .ok a c := rfl
def slotsOf (γ : Env) : List Nat → Option (List D)
  | [] => some []
  | i :: is => match γ[i]?, slotsOf γ is with
    | some (some d), some ds => if isLam d then none else some (d :: ds)
    | _, _ => none
/-- the values in the parameters' order: ix tells where each lies -/
def pick {α : Type} (ix : List Nat) (xs : List α) : List α := ix.filterMap fun i => xs[i]?
def mkEnd (b : Nat) (c : List Cell) (d : D) (c' : List Cell) : Res D := match d, c' with
  | .non, [.ins cn' fs] => if closedF b fs then .ok (.ins cn' fs) c else .bad
  | _, _ => .bad
/-- an instance is made -/
def mkSem (P : Prog) (call : Call) (cn : Str) (ds : List D) (b : Nat) (c : List Cell) : Res D :=
  match P.exc cn, P.init cn with
  | false, some (some q) => (noExc (call q (.ref (b + c.length) :: ds) (b + c.length) [.ins cn []])).bind fun d c' => mkEnd (b + c.length) c d c'
  | false, some none => (match ds with
    | [] => .ok (.ins cn []) c
    | _ => .bad)
  | _, _ => .bad
/-- == and in by an own method -/
def ownCmp (P : Prog) (op : CmpOp) (b : Nat) (c : List Cell) (x y : D) : Option (Str × Bool × List D) :=
  match op with
  | .Eq => (classOf b c x).bind fun cn => if (isTy P b c y (.own cn)).isSome then (P.meth cn "__eq__").map fun q => (q, false, [x, y]) else none
  | .NotEq => (classOf b c x).bind fun cn => if (isTy P b c y (.own cn)).isSome then (P.meth cn "__eq__").map fun q => (q, true, [x, y]) else none
  | .In => (classOf b c y).bind fun cn => (P.meth cn "__contains__").map fun q => (q, false, [y, x])
  | .NotIn => (classOf b c y).bind fun cn => (P.meth cn "__contains__").map fun q => (q, true, [y, x])
  | _ => none
def ownLen (P : Prog) (f : Bi) (ds : List D) (b : Nat) (c : List Cell) : Option Str :=
  match f, ds with
  | .len, [x] => (classOf b c x).bind fun cn => P.meth cn "__len__"
  | _, _ => none
def negR (neg : Bool) (d : D) (c : List Cell) : Res D := match d with
  | .bl k => .ok (.bl (k != neg)) c
  | _ => .bad
def lenR (d : D) (c : List Cell) : Res D := match d with
  | .int i => if 0 ≤ i ∧ i < 2 ^ 63 then .ok (.int i) c else .bad
  | _ => .bad
def truR (d : D) (c : List Cell) : Res Bool := match d with
  | .int i => if 0 ≤ i ∧ i < 2 ^ 63 then .ok (i != 0) c else .bad
  | _ => .bad
/-- a value's truth: a bool, or an instance by its own len -/
def truX (P : Prog) (call : Call) (d : D) (b : Nat) (c : List Cell) : Res Bool :=
  match d with
  | .bl k => .ok k c
  | d => match (classOf b c d).bind fun cn => P.meth cn "__len__" with
    | some q => (noExc (call q [d] b c)).bind truR
    | none => .bad
def cmpX (P : Prog) (call : Call) (op : CmpOp) (dx dy : D) (b : Nat) (c : List Cell) : Res D :=
  match ownCmp P op b c dx dy with
  | some (q, neg, as) => (noExc (call q as b c)).bind (negR neg)
  | none => ofOpt ((cmpSem op b c dx dy).map .bl) c
def bltX (P : Prog) (call : Call) (f : Bi) (ds : List D) (b : Nat) (c : List Cell) : Res D :=
  match ownLen P f ds b c with
  | some q => (noExc (call q ds b c)).bind lenR
  | none => ofOpt (bltSem f ds b c) c
/-- what a comprehension gathers: turn by turn -/
def compL (step : D → Nat → List Cell → Res (Option D)) (b : Nat) : List D → List D → List Cell → Res (List D)
  | [], acc, c => .ok acc c
  | x :: xs, acc, c => (step x b c).bind fun o c => match o with
    | some y => if acc.length < sizeLine then compL step b xs (acc ++ [y]) c else .bad
    | none => compL step b xs acc c

def dcL (step : D → Nat → List Cell → Res (Option (L2.Key × D))) (b : Nat) : List D → List (L2.Key × D) → List Cell → Res (List (L2.Key × D))
  | [], acc, c => .ok acc c
  | x :: xs, acc, c => (step x b c).bind fun o c => match o with
    | some (k, y) => if acc.length < sizeLine then dcL step b xs (putD acc k y) c else .bad
    | none => dcL step b xs acc c
def dicEnd (kvs : List (L2.Key × D)) (c : List Cell) : Res D := .ok (dictOf kvs) c
def foldL (step : D → List D → Nat → List Cell → Res (List D)) (b : Nat) : List D → List D → List Cell → Res (List D)
  | [], acc, c => .ok acc c
  | x :: xs, acc, c => (step x acc b c).bind fun acc c => foldL step b xs acc c
def forL (step : D → Env → Nat → List Cell → Res Fl) (b : Nat) : List D → Env → List Cell → Res Fl
  | [], γ, c => .ok (.nx γ) c
  | x :: xs, γ, c => (step x γ b c).bind fun f c => match f with
    | .nx γ => forL step b xs γ c
    | .ct γ => forL step b xs γ c
    | .bk γ => .ok (.nx γ) c
    | .rt d => .ok (.rt d) c

/-- the list at n, as it is now -/
def listAt (b : Nat) (c : List Cell) (n : Nat) : Option (List D) := match cellAt b c n with
  | some (.lst xs) => some xs
  | _ => none
/-- a walk over a list of the store: k turns are left, the next item is the i-th -/
def forS (step : D → Env → Nat → List Cell → Res Fl) (b n : Nat) : Nat → Nat → Env → List Cell → Res Fl
  | 0, i, γ, c => match listAt b c n with
    | some xs => if xs.length ≤ i then .ok (.nx γ) c else .bad
    | none => .bad
  | k + 1, i, γ, c => match (listAt b c n).bind (·[i]?) with
    | some x => (step x γ b c).bind fun f c => (match f with
      | .nx γ => forS step b n k (i + 1) γ c
      | .ct γ => forS step b n k (i + 1) γ c
      | .bk γ => .ok (.nx γ) c
      | .rt d => .ok (.rt d) c)
    | none => .bad
def compS (step : D → Nat → List Cell → Res (Option D)) (b n : Nat) : Nat → Nat → List D → List Cell → Res (List D)
  | 0, i, acc, c => match listAt b c n with
    | some xs => if xs.length ≤ i then .ok acc c else .bad
    | none => .bad
  | k + 1, i, acc, c => match (listAt b c n).bind (·[i]?) with
    | some x => (step x b c).bind fun o c => (match o with
      | some y => if acc.length < sizeLine then compS step b n k (i + 1) (acc ++ [y]) c else .bad
      | none => compS step b n k (i + 1) acc c)
    | none => .bad
def forW (step : D → Env → Nat → List Cell → Res Fl) (b : Nat) : Wk → Env → List Cell → Res Fl
  | .xs l => forL step b l
  | .sto n m => forS step b n m 0
def compW (step : D → Nat → List Cell → Res (Option D)) (b : Nat) : Wk → List D → List Cell → Res (List D)
  | .xs l => compL step b l
  | .sto n m => compS step b n m 0
def itemsW : Wk → Option (List D)
  | .xs l => some l
  | .sto _ _ => none
def enumD : Int → List D → List D
  | _, [] => []
  | i, x :: xs => .tup [.int i, x] :: enumD (i + 1) xs
def zipD : List D → List D → List D
  | x :: xs, y :: ys => .tup [x, y] :: zipD xs ys
  | _, _ => []
def rngD (a : Int) : Nat → List D
  | 0 => []
  | n + 1 => .int a :: rngD (a + 1) n
def small62 (i : Int) : Bool := decide (-(2 ^ 62) ≤ i) && decide (i < 2 ^ 62)

def Es.len : Es → Nat
  | .nil => 0
  | .cons _ es => es.len + 1
section
variable (P : Prog) (call : Call)

mutual
def ev : E → Env → Nat → List Cell → Res D
  | .var i, γ, _, c => match γ[i]? with
    | some (some d) => if isLam d then .bad else .ok d c
    | _ => .bad
  | .con d, _, _, c => .ok d.toD c
  | .tup es, γ, b, c => (evs es γ b c).bind fun ds c => if ds.length ≤ sizeLine then .ok (.tup ds) c else .bad
  | .lst es m, γ, b, c => (evs es γ b c).bind fun ds c => newLst m ds b c
  | .bin op x y, γ, b, c => (ev x γ b c).bind fun dx c => (ev y γ b c).bind fun dy c => ofOpt (binSem op b c dx dy) c
  | .neg x, γ, b, c => (ev x γ b c).bind fun dx c => match dx with
    | .int i => .ok (.int (-i)) c
    | _ => .bad
  | .nt x, γ, b, c => (ev x γ b c).bind fun dx c => match dx with
    | .bl k => .ok (.bl (!k)) c
    | _ => .bad
  | .an es, γ, b, c => evAnd es γ b c
  | .orr es, γ, b, c => evOr es γ b c
  | .ite t x y, γ, b, c => (evT t γ b c).bind fun k c => if k then ev x γ b c else ev y γ b c
  | .cmp op x y, γ, b, c => (ev x γ b c).bind fun dx c => (ev y γ b c).bind fun dy c => noExc (cmpX P call op dx dy b c)
  | .chain o1 o2 x y z, γ, b, c => (ev x γ b c).bind fun dx c => (ev y γ b c).bind fun dy c => match cmpSem o1 b c dx dy with
    | some true => (ev z γ b c).bind fun dz c => ofOpt ((cmpSem o2 b c dy dz).map .bl) c
    | some false => .ok (.bl false) c
    | none => .bad
  | .idx x i, γ, b, c => (ev x γ b c).bind fun dx c => (ev i γ b c).bind fun di c => ofOpt (ixSem b c dx di) c
  | .slc x lo hi, γ, b, c => (ev x γ b c).bind fun dx c => (evP lo γ b c).bind fun l c => (evP hi γ b c).bind fun h c => ofOpt (slSem b c dx l h) c
  | .call f es dv, γ, b, c => (evs es γ b c).bind fun ds c => noExc (call f (ds ++ dv.map K.toD) b c)
  | .callv i es, γ, b, c => match γ[i]? with
    | some (some (.fn f)) => if (P.fun? f).isSome then (evs es γ b c).bind fun ds c => noExc (call f ds b c) else .bad
    | some (some (.lam x sz np cs)) => (evs es γ b c).bind fun ds c => if ds.length = np then noExc (call.lm x ((ds ++ cs).map some ++ List.replicate (sz - (ds ++ cs).length) none) b c) else .bad
    | _ => .bad
  | .calll f es x sz np is, γ, b, c => (evs es γ b c).bind fun ds c => match slotsOf γ is with
    | some cs => noExc (call f (ds ++ [.lam x sz np cs]) b c)
    | none => .bad
  | .mk cn es dv, γ, b, c => (evs es γ b c).bind fun ds c => noExc (mkSem P call cn (ds ++ dv.map K.toD) b c)
  | .mkk cn es ks nn, γ, b, c => (match P.init cn with
    | some (some q) => (match P.kw q (es.len + 1) nn with
      | some (0 :: ix, dv) => if ix.all (· != 0) then (evs es γ b c).bind fun ds c => (evs ks γ b c).bind fun ws c => noExc (mkSem P call cn (pick (ix.map (· - 1)) (ds ++ (ws ++ dv))) b c) else .bad
      | _ => .bad)
    | _ => .bad)
  | .callk f es ks nn, γ, b, c => (match P.kw f es.len nn with
    | some (ix, dv) => (evs es γ b c).bind fun ds c => (evs ks γ b c).bind fun ws c => noExc (call f (pick ix (ds ++ (ws ++ dv))) b c)
    | none => .bad)
  | .mthk o m es ks nn, γ, b, c => (noExc (ev o γ b c)).bind fun d c => match classOf b c d with
    | some cn => (match P.meth cn m with
      | some q => (match P.kw q (es.len + 1) nn with
        | some (ix, dv) => if (fieldOf b c d m).isNone then (evs es γ b c).bind fun ds c => (evs ks γ b c).bind fun ws c => noExc (call q (pick ix (d :: ds ++ (ws ++ dv))) b c) else .bad
        | none => .bad)
      | none => .bad)
    | none => .bad
  | .mth o m es, γ, b, c => (noExc (ev o γ b c)).bind fun d c => match classOf b c d with
    | some cn => (match P.meth cn m with
      | some q => if (fieldOf b c d m).isNone then (evs es γ b c).bind fun ds c => noExc (call q (d :: ds) b c) else .bad
      | none => .bad)
    | none => .bad
  | .app o x, γ, b, c => (ev o γ b c).bind fun d c => if (lstCell b c d).isNone then .bad else (ev x γ b c).bind fun y c => match d with
    | .ref n => (match cellAt b c n with
      | some (.lst xs) => if xs.length < sizeLine then .ok .non (setC b c n (.lst (xs ++ [y]))) else .bad
      | _ => .bad)
    | _ => .bad
  | .popi o x, γ, b, c => (ev o γ b c).bind fun d c => if (lstCell b c d).isNone then .bad else (ev x γ b c).bind fun y c => match d, y with
    | .ref n, .int i => (match cellAt b c n with
      | some (.lst xs) => if decide (-(2 ^ 63) ≤ i) && decide (i < 2 ^ 63) then (match L2.ixN xs.length i with
        | some k => (match xs[k]? with
          | some z => .ok z (setC b c n (.lst (xs.eraseIdx k)))
          | none => .bad)
        | none => .bad) else .bad
      | _ => .bad)
    | _, _ => .bad
  | .blt f es, γ, b, c => (evs es γ b c).bind fun ds c => noExc (bltX P call f ds b c)
  | .isi x ts, γ, b, c => (ev x γ b c).bind fun d c => match ts with
    | [t] => ofOpt ((isTy P b c d t).map .bl) c
    | _ => .bad
  | .att o f, γ, b, c => (noExc (ev o γ b c)).bind fun d c => match classOf b c d with
    | some cn => (match P.prop cn f with
      | some q => noExc (call q [d] b c)
      | none => if P.fld cn f then ofOpt (fieldOf b c d f) c else .bad)
    | none => .bad
  | .comp elt t it ifs own m, γ, b, c => (evI it γ b c).bind fun w c =>
    (noExc (compW (fun x b c => match asgT t x (wipeE γ own) with
      | some γ' => (evC ifs γ' b c).bind fun k c => if k then (ev elt γ' b c).bind fun y c => .ok (some y) c else .ok none c
      | none => .bad) b w [] c)).bind fun ys c => newLst m ys b c
  | .comp2 elt t it ifs t2 it2 ifs2 own own2 m, γ, b, c => ((evI it γ b c).bind fun w c => ofOpt (itemsW w) c).bind fun xs c =>
    (noExc (foldL (fun x acc b c => match asgT t x (wipeE γ own) with
      | some γ2 => (evC ifs γ2 b c).bind fun k c => if k then ((evI it2 γ2 b c).bind fun w c => ofOpt (itemsW w) c).bind fun ys c => compL (fun y b c => match asgT t2 y (wipeE γ2 own2) with
        | some γ' => (evC ifs2 γ' b c).bind fun k c => if k then (ev elt γ' b c).bind fun z c => .ok (some z) c else .ok none c
        | none => .bad) b ys acc c else .ok acc c
      | none => .bad) b xs [] c)).bind fun zs c => newLst m zs b c
  | .dcomp kx vx t it ifs own, γ, b, c => ((evI it γ b c).bind fun w c => ofOpt (itemsW w) c).bind fun xs c =>
    (noExc (dcL (fun x b c => match asgT t x (wipeE γ own) with
      | some γ' => (evC ifs γ' b c).bind fun k c => if k then (ev kx γ' b c).bind fun y c => (ev vx γ' b c).bind fun z c => match keyOf y with
        | some k => .ok (some (k, z)) c
        | none => .bad else .ok none c
      | none => .bad) b xs [] c)).bind dicEnd
  | .fmt e, γ, b, c => (ev e γ b c).bind fun d c => ofOpt ((strOfD d).map .str) c
  | .fstr es, γ, b, c => evF es γ b c Str.empty
  | .kin neg x kvs, γ, b, c => (ev x γ b c).bind fun dx c => match dx with
    | .str z => .ok (.bl ((kvs.lookup z).isSome != neg)) c
    | _ => .bad
  | .lsm x, γ, b, c => (ev x γ b c).bind fun dx c => match seqOf b c dx with
    | some xs => newLst true xs b c
    | none => .bad
  | .kix x kvs, γ, b, c => (ev x γ b c).bind fun dx c => match dx with
    | .str z => (match kvs.lookup z with
      | some k => .ok k.toD c
      | none => .bad)
    | _ => .bad
  | .bot, _, _, _ => .bad
def evs : Es → Env → Nat → List Cell → Res (List D)
  | .nil, _, _, c => .ok [] c
  | .cons e es, γ, b, c => (ev e γ b c).bind fun d c => (evs es γ b c).bind fun ds c => .ok (d :: ds) c
def evAnd : Es → Env → Nat → List Cell → Res D
  | .nil, _, _, _ => .bad
  | .cons e es, γ, b, c => (ev e γ b c).bind fun d c => match es with
    | .nil => .ok d c
    | .cons e' es' => match d with
      | .bl true => evAnd es γ b c
      | .bl false => .ok (.bl false) c
      | _ => .bad
def evOr : Es → Env → Nat → List Cell → Res D
  | .nil, _, _, _ => .bad
  | .cons e es, γ, b, c => (ev e γ b c).bind fun d c => match es with
    | .nil => .ok d c
    | .cons e' es' => match d with
      | .bl false => evOr es γ b c
      | .bl true => .ok (.bl true) c
      | _ => .bad
/-- as a test -/
def evT : T → Env → Nat → List Cell → Res Bool
  | .e x, γ, b, c => (ev x γ b c).bind fun d c => ofOpt (bool? d) c
  | .tv x, γ, b, c => (ev x γ b c).bind fun d c => noExc (truX P call d b c)
  | .nt t, γ, b, c => (evT t γ b c).bind fun k c => .ok (!k) c
  | .an ts, γ, b, c => evTA ts γ b c
  | .orr ts, γ, b, c => evTO ts γ b c
def evTA : Ts → Env → Nat → List Cell → Res Bool
  | .one t, γ, b, c => evT t γ b c
  | .cons t ts, γ, b, c => (evT t γ b c).bind fun k c => if k then evTA ts γ b c else .ok false c
def evTO : Ts → Env → Nat → List Cell → Res Bool
  | .one t, γ, b, c => evT t γ b c
  | .cons t ts, γ, b, c => (evT t γ b c).bind fun k c => if k then .ok true c else evTO ts γ b c
def evP : Eo → Env → Nat → List Cell → Res (Option Int)
  | .none, _, _, c => .ok none c
  | .some e, γ, b, c => (ev e γ b c).bind fun d c => ofOpt (partOf d) c
def evC : To → Env → Nat → List Cell → Res Bool
  | .none, _, _, c => .ok true c
  | .some t, γ, b, c => evT t γ b c
def evF : Es → Env → Nat → List Cell → Str → Res D
  | .nil, _, _, c, acc => .ok (.str acc) c
  | .cons e es, γ, b, c, acc => (ev e γ b c).bind fun d c => match d with
    | .str s => if acc.length + s.length ≤ sizeLine then evF es γ b c (acc ++ s) else .bad
    | _ => .bad
def evI : It → Env → Nat → List Cell → Res Wk
  | .seq e, γ, b, c => (ev e γ b c).bind fun d c => match d with
    | .tup xs => .ok (.xs xs) c
    | .lst xs => .ok (.xs xs) c
    | .scr ns => .ok (.xs (ns.map .int)) c
    | .str s => .ok (.xs (s.cps.toList.map fun k => .str ⟨#[k]⟩)) c
    | .ref n => (match listAt b c n with
      | some xs => .ok (.sto n xs.length) c
      | none => .bad)
    | _ => .bad
  | .rng e, γ, b, c => (ev e γ b c).bind fun d c => match d with
    | .int j => if small62 j then .ok (.xs (rngD 0 j.toNat)) c else .bad
    | _ => .bad
  | .rng2 e e2, γ, b, c => (ev e γ b c).bind fun d c => (ev e2 γ b c).bind fun d2 c => match d, d2 with
    | .int i, .int j => if small62 i && small62 j then .ok (.xs (rngD i (j - i).toNat)) c else .bad
    | _, _ => .bad
  | .enm e, γ, b, c => (ev e γ b c).bind fun d c => match d with
    | .tup xs => .ok (.xs (enumD 0 xs)) c
    | .lst xs => .ok (.xs (enumD 0 xs)) c
    | _ => .bad
  | .zip x y, γ, b, c => (ev x γ b c).bind fun d c => (ev y γ b c).bind fun d2 c => match d, d2 with
    | .tup xs, .tup ys => .ok (.xs (zipD xs ys)) c
    | .lst xs, .lst ys => .ok (.xs (zipD xs ys)) c
    | _, _ => .bad
end

mutual
def evS : S → Env → Nat → List Cell → Res Fl
  | .expr e, γ, b, c => (ev P call e γ b c).bind fun _ c => .ok (.nx γ) c
  | .asg t e, γ, b, c => (ev P call e γ b c).bind fun d c => match asgT t d γ with
    | some γ => .ok (.nx γ) c
    | none => .bad
  | .par is es, γ, b, c => (evs P call es γ b c).bind fun ds c => match asgT.asgL is ds γ with
    | some γ => .ok (.nx γ) c
    | none => .bad
  | .ret e, γ, b, c => (ev P call e γ b c).bind fun d c => .ok (.rt d) c
  | .ife t x y, γ, b, c => (evT P call t γ b c).bind fun k c => if k then evSs x γ b c else evSs y γ b c
  | .for t it body, γ, b, c => (evI P call it γ b c).bind fun w c =>
    forW (fun x γ b c => match asgT t x γ with
      | some γ => evSs body γ b c
      | none => .bad) b w γ c
  | .pas, γ, _, c => .ok (.nx γ) c
  | .brk, γ, _, c => .ok (.bk γ) c
  | .cnt, γ, _, c => .ok (.ct γ) c
  | .rse cn es, γ, b, c => .bad
  | .seta o f e, γ, b, c => (ev P call e γ b c).bind fun d c => (ev P call o γ b c).bind fun od c => match od with
    | .ref n => (match cellAt b c n with
      | some (.ins cn fs) => if P.fld cn f ∧ fs.length < 1000 then .ok (.nx γ) (setC b c n (.ins cn (putF f d fs))) else .bad
      | _ => .bad)
    | _ => .bad
  | .seti o i e, γ, b, c => (ev P call e γ b c).bind fun d c => (ev P call o γ b c).bind fun od c => (ev P call i γ b c).bind fun id c => match od, id with
    | .ref n, .int k => (match cellAt b c n with
      | some (.lst xs) => (match L2.ixN xs.length k with
        | some j => .ok (.nx γ) (setC b c n (.lst (xs.set j d)))
        | none => .bad)
      | _ => .bad)
    | _, _ => .bad
  | .aug i op e, γ, b, c => match γ[i]? with
    | some (some x) => (ev P call e γ b c).bind fun y c => match op, x, y with
      | .Add, .int m, .int n => .ok (.nx (γ.set i (some (.int (m + n))))) c
      | .Sub, .int m, .int n => .ok (.nx (γ.set i (some (.int (m - n))))) c
      | _, _, _ => .bad
    | _ => .bad
where putF (f : Str) (d : D) : List (Str × D) → List (Str × D)
  | [] => [(f, d)]
  | (g, x) :: r => if g = f then (g, d) :: r else (g, x) :: putF f d r
def evSs : Ss → Env → Nat → List Cell → Res Fl
  | .nil, γ, _, c => .ok (.nx γ) c
  | .cons s ss, γ, b, c => (evS s γ b c).bind fun f c => match f with
    | .nx γ => evSs ss γ b c
    | f => .ok f c
end

/-- a def's body at all its parameters -/
def run (F : Fun) (ds : List D) (b : Nat) (c : List Cell) : Res D :=
  if ds.length = F.np then (evSs P call F.body (ds.map some ++ List.replicate (F.N.length - ds.length) none) b c).bind fun f c => match f with
    | .rt d => .ok d c
    | .nx _ => .ok .non c
    | _ => .bad
  else .bad
def callBy (F : Fun) (ds : List D) (b : Nat) (c : List Cell) : Res D :=
  match F.mode with
  | .keep => run P call F ds b c
  | .pure => (match run P call F ds (b + c.length) [] with
    | .ok d [] => .ok d c
    | .ok d c' => (match freeze (b + c.length) c' d with
      | some d => .ok d c
      | none => .bad)
    | .exc x fs [] => .exc x fs c
    | .exc x fs _ => if closedF (b + c.length) fs then .exc x fs c else .bad
    | .bad => .bad)
  | .trunc => (match run P call F ds b c with
    | .ok d c' => if (c'.take c.length).all (Cell.closed (b + c.length)) && decide (c.length ≤ c'.length) then (match freeze (b + c.length) (c'.drop c.length) d with
      | some d => .ok d (c'.take c.length)
      | none => .bad) else .bad
    | .exc x fs c' => if (c'.take c.length).all (Cell.closed (b + c.length)) && (decide (c.length ≤ c'.length) && closedF (b + c.length) fs) then .exc x fs (c'.take c.length) else .bad
    | .bad => .bad)
end

/-- calls d deep -/
def calls (P : Prog) : Nat → Call
  | 0 => ⟨fun _ _ _ _ => .bad, fun _ _ _ _ => .bad⟩
  | d + 1 => ⟨fun f ds b c => match P.fun? f with
    | some F => callBy P (calls P d) F ds b c
    | none => .bad, fun x γ b c => ev P (calls P d) x γ b c⟩
end MP
end
section
set_option maxRecDepth 100000
namespace MP
open PySem PySem.Spec PyProof.Rows L2

/-- the written part; where the classes, the defs stand -/
structure Tab where
  K : PySem.W.Frag
  cA : Str → Option Addr
  fA : Str → Option Addr
  tb : List (Addr × Str)
  hid : List Addr
  lp : Arguments → Expr → Scope → List Str → List Str → E → Nat → Prop

/-- neither of the store, nor hidden (a list that a comprehension gathers) -/
def Out (T : Tab) (ρ : List Addr) (a : Addr) : Prop := a ∉ ρ ∧ a ∉ T.hid
def Tab.hide (T : Tab) (h : List Addr) : Tab := { T with hid := h }
def KTup (K : PySem.W.Frag) (a : Addr) (xs : List V) : Prop := ∃ (o : Obj) (its : Array Value) (n : Nat), K.lookup a = some o ∧ o.cls = .type "tuple" ∧ o.dict = none ∧ o.data = .seq its n ∧ its.size ≤ sizeLine ∧ Vals xs its.toList
def KLst (K : PySem.W.Frag) (a : Addr) (xs : List V) : Prop := ∃ (o : Obj) (its : Array Value) (n : Nat), K.lookup a = some o ∧ o.cls = .type "list" ∧ o.dict = none ∧ o.data = .seq its n ∧ its.size ≤ sizeLine ∧ Vals xs its.toList

mutual
inductive Rep (T : Tab) (ρ : List Addr) (H : Hp) : V → D → Prop
  | non : Rep T ρ H .non .non
  | bl (b : Bool) : Rep T ρ H (.bl b) (.bl b)
  | int (i : Int) : Rep T ρ H (.int i) (.int i)
  | str (s : Str) : Rep T ρ H (.str s) (.str s)
  | tup {a : Addr} {o : Obj} {vs : List V} {ds : List D} : H a = some (.frz o (.tup vs)) → o.dict = none → Out T ρ a → RepL T ρ H vs ds → Rep T ρ H (.ref a) (.tup ds)
  | tupK {a : Addr} {vs : List V} {ds : List D} : KTup T.K a vs → RepL T ρ H vs ds → Rep T ρ H (.ref a) (.tup ds)
  | lst {a : Addr} {vs : List V} {ds : List D} : H a = some (.lst vs) → Out T ρ a → RepL T ρ H vs ds → Rep T ρ H (.ref a) (.lst ds)
  | dic {a : Addr} {kvs : List (Key × V)} {ds : List (D × D)} : H a = some (.dK kvs) → Out T ρ a → RepK T ρ H kvs ds → Rep T ρ H (.ref a) (.dic ds)
  | ins {a C dx : Addr} {c : Str} {vs : List (Str × V)} {fs : List (Str × D)} : H a = some (.ins C dx vs) → T.cA c = some C → Out T ρ a → RepF T ρ H vs fs → Rep T ρ H (.ref a) (.ins c fs)
  | ref {a : Addr} {n : Nat} : ρ[n]? = some a → Rep T ρ H (.ref a) (.ref n)
  | cls {a : Addr} {c : Str} : T.cA c = some a → Rep T ρ H (.ref a) (.cls c)
  | fn {a : Addr} {f : Str} : T.fA f = some a → Rep T ρ H (.ref a) (.fn f)
  | scr {a : Addr} {ns : List Int} {o : Obj} : H a = some (.frz o (.lst (ns.map V.int))) → Out T ρ a → Rep T ρ H (.ref a) (.scr ns)
  | scrK {a : Addr} {ns : List Int} : KLst T.K a (ns.map V.int) → Rep T ρ H (.ref a) (.scr ns)
inductive RepL (T : Tab) (ρ : List Addr) (H : Hp) : List V → List D → Prop
  | nil : RepL T ρ H [] []
  | cons {v : V} {vs : List V} {d : D} {ds : List D} : Rep T ρ H v d → RepL T ρ H vs ds → RepL T ρ H (v :: vs) (d :: ds)
inductive RepK (T : Tab) (ρ : List Addr) (H : Hp) : List (Key × V) → List (D × D) → Prop
  | nil : RepK T ρ H [] []
  | cons {k : Key} {v : V} {vs : List (Key × V)} {d : D} {ds : List (D × D)} : Rep T ρ H v d → RepK T ρ H vs ds → RepK T ρ H ((k, v) :: vs) ((kD k, d) :: ds)
inductive RepF (T : Tab) (ρ : List Addr) (H : Hp) : List (Str × V) → List (Str × D) → Prop
  | nil : RepF T ρ H [] []
  | cons {f : Str} {v : V} {vs : List (Str × V)} {d : D} {ds : List (Str × D)} : Rep T ρ H v d → RepF T ρ H vs ds → RepF T ρ H ((f, v) :: vs) ((f, d) :: ds)
end

/-- what is behind: the store has grown, what is not in the store stands -/
structure Ext (ρ : List Addr) (H : Hp) (ρ' : List Addr) (H' : Hp) : Prop where
  pre : ∃ r, ρ' = ρ ++ r
  keepN : ∀ a o, H a = some o → (∀ ps, o ≠ .tbl ps) → a ∉ ρ → H' a = some o
  new : ∀ a, a ∈ ρ' → a ∈ ρ ∨ H a = none
  gone : ∀ a, H' a = none → a ∈ ρ ∨ H a = none
section
variable {T : Tab} {ρ ρ' ρ1 ρ2 : List Addr} {H H' H1 H2 : Hp}
theorem Ext.keep (e : Ext ρ H ρ' H') (a : Addr) (o : HO) (h : H a = some o) (n : a ∉ ρ) (q : ∀ ps, o ≠ .tbl ps := by intro _ z; cases z) : H' a = some o := e.keepN a o h q n
theorem Ext.refl (ρ : List Addr) (H : Hp) : Ext ρ H ρ H := ⟨⟨[], by simp⟩, fun _ _ e _ _ => e, fun _ h => .inl h, fun _ h => .inr h⟩
theorem Ext.mem (e : Ext ρ H ρ' H') {a : Addr} (h : a ∈ ρ) : a ∈ ρ' := by
  obtain ⟨r, rfl⟩ := e.pre
  exact List.mem_append_left _ h
theorem Ext.out (e : Ext ρ H ρ' H') {a : Addr} {o : HO} (h : H a = some o) (n : a ∉ ρ) : a ∉ ρ' := fun m => by
  rcases e.new a m with z | z
  · exact n z
  · rw [h] at z; cases z
theorem Ext.trans (a : Ext ρ H ρ1 H1) (b : Ext ρ1 H1 ρ2 H2) : Ext ρ H ρ2 H2 where
  pre := by
    obtain ⟨r, rfl⟩ := a.pre
    obtain ⟨r2, rfl⟩ := b.pre
    exact ⟨r ++ r2, by simp⟩
  keepN := fun c o h t n => b.keepN c o (a.keepN c o h t n) t (a.out h n)
  new := fun c m => by
    rcases b.new c m with z | z
    · exact a.new c z
    · cases q : H c with
      | none => exact .inr rfl
      | some o => exact (a.gone c z).imp id fun w => absurd w (by rw [q]; simp)
  gone := fun c m => by
    rcases b.gone c m with z | z
    · exact a.new c z
    · exact a.gone c z
theorem Ext.at (e : Ext ρ H ρ' H') {n : Nat} {a : Addr} (h : ρ[n]? = some a) : ρ'[n]? = some a := by
  obtain ⟨r, rfl⟩ := e.pre
  rw [List.getElem?_append_left (List.getElem?_eq_some_iff.mp h).1]
  exact h
/-- a new object, not of the store -/
theorem Ext.upd {p : Addr} {o : HO} (h : H p = none) : Ext ρ H ρ (L2.upd H p o) :=
  ⟨⟨[], by simp⟩, fun a u e _ _ => by rw [upd_ne (ne_of_none e h)]; exact e, fun _ h => .inl h, fun a z => .inr (by
    by_cases q : a = p
    · rw [q]; exact h
    · rw [upd_ne q] at z; exact z)⟩
/-- an object of the store is written -/
theorem Ext.write {p : Addr} {o : HO} (h : p ∈ ρ) : Ext ρ H ρ (L2.upd H p o) :=
  ⟨⟨[], by simp⟩, fun a u e _ n => by rw [upd_ne (fun z => n (by rw [z]; exact h))]; exact e, fun _ h => .inl h, fun a z => by
    by_cases q : a = p
    · rw [q]; exact .inl h
    · rw [upd_ne q] at z; exact .inr z⟩
/-- a new object of the store -/
theorem Ext.push {p : Addr} {o : HO} (h : H p = none) : Ext ρ H (ρ ++ [p]) (L2.upd H p o) :=
  ⟨⟨[p], rfl⟩, fun a u e _ _ => by rw [upd_ne (ne_of_none e h)]; exact e, fun a m => by
    rcases List.mem_append.mp m with z | z
    · exact .inl z
    · have e : a = p := by simpa using z
      exact .inr (e ▸ h), fun a z => .inr (by
    by_cases q : a = p
    · rw [q]; exact h
    · rw [upd_ne q] at z; exact z)⟩

mutual
theorem Rep.mono (e : Ext ρ H ρ' H') : ∀ {v : V} {d : D}, Rep T ρ H v d → Rep T ρ' H' v d
  | _, _, .non => .non
  | _, _, .bl b => .bl b
  | _, _, .int i => .int i
  | _, _, .str s => .str s
  | _, _, .tup h d n r => .tup (e.keep _ _ h n.1) d ⟨e.out h n.1, n.2⟩ (RepL.mono e r)
  | _, _, .tupK h r => .tupK h (RepL.mono e r)
  | _, _, .lst h n r => .lst (e.keep _ _ h n.1) ⟨e.out h n.1, n.2⟩ (RepL.mono e r)
  | _, _, .dic h n r => .dic (e.keep _ _ h n.1) ⟨e.out h n.1, n.2⟩ (RepK.mono e r)
  | _, _, .ins h c n r => .ins (e.keep _ _ h n.1) c ⟨e.out h n.1, n.2⟩ (RepF.mono e r)
  | _, _, .ref h => .ref (e.at h)
  | _, _, .cls h => .cls h
  | _, _, .fn h => .fn h
  | _, _, .scr h n => .scr (e.keep _ _ h n.1) ⟨e.out h n.1, n.2⟩
  | _, _, .scrK h => .scrK h
theorem RepL.mono (e : Ext ρ H ρ' H') : ∀ {vs : List V} {ds : List D}, RepL T ρ H vs ds → RepL T ρ' H' vs ds
  | _, _, .nil => .nil
  | _, _, .cons h r => .cons (Rep.mono e h) (RepL.mono e r)
theorem RepK.mono (e : Ext ρ H ρ' H') : ∀ {vs : List (Key × V)} {ds : List (D × D)}, RepK T ρ H vs ds → RepK T ρ' H' vs ds
  | _, _, .nil => .nil
  | _, _, .cons h r => .cons (Rep.mono e h) (RepK.mono e r)
theorem RepF.mono (e : Ext ρ H ρ' H') : ∀ {vs : List (Str × V)} {ds : List (Str × D)}, RepF T ρ H vs ds → RepF T ρ' H' vs ds
  | _, _, .nil => .nil
  | _, _, .cons h r => .cons (Rep.mono e h) (RepF.mono e r)
end

theorem RepL.length : ∀ {vs : List V} {ds : List D}, RepL T ρ H vs ds → vs.length = ds.length
  | _, _, .nil => rfl
  | _, _, .cons _ r => by simp [RepL.length r]
theorem RepL.append : ∀ {vs ws : List V} {ds es : List D}, RepL T ρ H vs ds → RepL T ρ H ws es → RepL T ρ H (vs ++ ws) (ds ++ es)
  | _, _, _, _, .nil, s => s
  | _, _, _, _, .cons h r, s => .cons h (RepL.append r s)
theorem RepL.get : ∀ {vs : List V} {ds : List D} {i : Nat} {d : D}, RepL T ρ H vs ds → ds[i]? = some d → ∃ v, vs[i]? = some v ∧ Rep T ρ H v d
  | _, _, _, _, .nil, e => by simp at e
  | _, _, 0, _, .cons h _, e => by simp at e; subst e; exact ⟨_, rfl, h⟩
  | _, _, i + 1, d, .cons _ r, e => by
    obtain ⟨v, h1, h2⟩ := RepL.get (i := i) (d := d) r (by simpa using e)
    exact ⟨v, by simpa using h1, h2⟩
theorem RepL.get' : ∀ {vs : List V} {ds : List D} {i : Nat} {v : V}, RepL T ρ H vs ds → vs[i]? = some v → ∃ d, ds[i]? = some d ∧ Rep T ρ H v d
  | _, _, _, _, .nil, e => by simp at e
  | _, _, 0, _, .cons h _, e => by simp at e; subst e; exact ⟨_, rfl, h⟩
  | _, _, i + 1, v, .cons _ r, e => by
    obtain ⟨d, h1, h2⟩ := RepL.get' (i := i) (v := v) r (by simpa using e)
    exact ⟨d, by simpa using h1, h2⟩
theorem RepL.take : ∀ {vs : List V} {ds : List D} (n : Nat), RepL T ρ H vs ds → RepL T ρ H (vs.take n) (ds.take n)
  | _, _, 0, _ => .nil
  | _, _, _ + 1, .nil => .nil
  | _, _, n + 1, .cons h r => .cons h (RepL.take n r)
theorem RepL.drop : ∀ {vs : List V} {ds : List D} (n : Nat), RepL T ρ H vs ds → RepL T ρ H (vs.drop n) (ds.drop n)
  | _, _, 0, r => r
  | _, _, _ + 1, .nil => .nil
  | _, _, n + 1, .cons _ r => RepL.drop n r
theorem RepL.set {v : V} {d : D} (h : Rep T ρ H v d) : ∀ {vs : List V} {ds : List D} (n : Nat), RepL T ρ H vs ds → RepL T ρ H (vs.set n v) (ds.set n d)
  | _, _, _, .nil => .nil
  | _, _, 0, .cons _ r => .cons h r
  | _, _, n + 1, .cons z r => .cons z (RepL.set h n r)
theorem RepL.eraseIdx {vs : List V} {ds : List D} (n : Nat) (r : RepL T ρ H vs ds) : RepL T ρ H (vs.eraseIdx n) (ds.eraseIdx n) := by
  rw [List.eraseIdx_eq_take_drop_succ, List.eraseIdx_eq_take_drop_succ]
  exact (r.take n).append (r.drop (n + 1))
theorem RepL.dropLast {vs : List V} {ds : List D} (r : RepL T ρ H vs ds) : RepL T ρ H vs.dropLast ds.dropLast := by
  rw [List.dropLast_eq_take, List.dropLast_eq_take, r.length]
  exact r.take _
theorem RepL.rep {vs : List V} {ds : List D} (r : RepL T ρ H vs ds) : ∀ k : Nat, RepL T ρ H (List.replicate k vs).flatten (List.replicate k ds).flatten
  | 0 => .nil
  | k + 1 => by
    rw [List.replicate_succ, List.replicate_succ, List.flatten_cons, List.flatten_cons]
    exact r.append (RepL.rep r k)
theorem RepL.ints : ∀ (ns : List Int), RepL T ρ H (ns.map V.int) (ns.map D.int)
  | [] => .nil
  | n :: ns => .cons (.int n) (RepL.ints ns)
theorem RepL.strs : ∀ (ns : List Str), RepL T ρ H (ns.map V.str) (ns.map D.str)
  | [] => .nil
  | n :: ns => .cons (.str n) (RepL.strs ns)

inductive CellAt (T : Tab) (ρ : List Addr) (H : Hp) (a : Addr) : Cell → Prop
  | lst {vs : List V} {ds : List D} : H a = some (.lst vs) → RepL T ρ H vs ds → CellAt T ρ H a (.lst ds)
  | ins {C dx : Addr} {c : Str} {vs : List (Str × V)} {fs : List (Str × D)} : H a = some (.ins C dx vs) → T.cA c = some C → RepF T ρ H vs fs → CellAt T ρ H a (.ins c fs)
  | exn0 {C : Addr} {c : Str} : H a = some (exo a C none) → T.cA c = some C → CellAt T ρ H a (.exn c [])
  | exn {C dx : Addr} {c : Str} {vs : List (Str × V)} {fs : List (Str × D)} : H a = some (exo a C (some dx)) → H dx = some (exd dx vs) → dx ∉ ρ → T.cA c = some C → RepF T ρ H vs fs → fs ≠ [] → CellAt T ρ H a (.exn c fs)
structure StoreOk (T : Tab) (ρ : List Addr) (H : Hp) (cs : List Cell) : Prop where
  len : ρ.length = cs.length
  nd : ρ.Nodup
  at_ : ∀ (n : Nat) (c : Cell), cs[n]? = some c → ∃ a, ρ[n]? = some a ∧ CellAt T ρ H a c
  tb : LamX.Tabs T.tb H
  hd : ∀ a ∈ T.hid, H a ≠ none ∧ a ∉ ρ
  hx : ∀ a ∈ T.hid, ∀ φ, H a ≠ some (.ext φ)
/-- the object o, known and never written -/
def KO (o : Obj) : HO := .frz o (.own 0)
theorem KO_tbl {o : Obj} (ps : Array Value) : KO o ≠ .tbl ps := fun z => by unfold KO at z; cases z
/-- a lambda stands at a: its code, what it captured -/
def LamAt (T : Tab) (ρ : List Addr) (H : Hp) (a : Addr) (x : E) (sz np : Nat) (cs : List D) : Prop :=
  ∃ (params : Arguments) (body : Expr) (scope : Scope) (ps fr : List Str) (qual : Str) (cl : List (Str × Addr)) (c' : Addr) (pm ctv : Value),
    T.lp params body scope ps fr x sz ∧ np = ps.length ∧ H a = some (KO (PySem.W.kla_obj "<lambda>" qual params body scope cl pm c' ctv)) ∧ Out T ρ a ∧ H c' = some (LamX.CodeO c' qual) ∧ Out T ρ c' ∧
    (∀ x y c, cl.lookup x = some c → cl.lookup y = some c → x = y) ∧ (∀ y c, cl.lookup y = some c → y ∈ fr) ∧ ∃ wv : List V, RepL T ρ H wv cs ∧ wv.length = fr.length ∧
    ∀ (i : Nat) y, fr[i]? = some y → ∃ c o u v, cl.lookup y = some c ∧ wv[i]? = some v ∧ H c = some (KO o) ∧ Out T ρ c ∧ o.data = .cell (some u) ∧ RelV v u
/-- data, or a lambda -/
def RepA (T : Tab) (ρ : List Addr) (H : Hp) (v : V) (d : D) : Prop := Rep T ρ H v d ∨ ∃ a x sz np cs, d = .lam x sz np cs ∧ v = .ref a ∧ LamAt T ρ H a x sz np cs
theorem Rep.noLam {v : V} {d : D} (r : Rep T ρ H v d) : isLam d = false := by cases r <;> rfl
theorem RepA.data {v : V} {d : D} (r : RepA T ρ H v d) (h : isLam d = false) : Rep T ρ H v d := by
  rcases r with r | ⟨a, x, sz, np, cs, rfl, _⟩
  · exact r
  · cases h
theorem RepL.by_ {T' : Tab} (r : ∀ v d, Rep T ρ H v d → Rep T' ρ' H' v d) : ∀ {vs : List V} {ds : List D}, RepL T ρ H vs ds → RepL T' ρ' H' vs ds
  | _, _, .nil => .nil
  | _, _, .cons h q => .cons (r _ _ h) (RepL.by_ r q)
theorem LamAt.tr {T' : Tab} {a : Addr} {x : E} {sz np : Nat} {cs : List D} (hl : T'.lp = T.lp) (k : ∀ b o, H b = some o → (∀ ps, o ≠ .tbl ps) → Out T ρ b → H' b = some o ∧ Out T' ρ' b) (r : ∀ v d, Rep T ρ H v d → Rep T' ρ' H' v d)
    (h : LamAt T ρ H a x sz np cs) : LamAt T' ρ' H' a x sz np cs := by
  obtain ⟨params, body, scope, ps, fr, qual, cl, c', pm, ctv, h1, h2, h3, h4, h5, h6, h7, h8, wv, h9, h11, h10⟩ := h
  obtain ⟨k1, k2⟩ := k _ _ h3 KO_tbl h4
  obtain ⟨k3, k4⟩ := k _ _ h5 (fun ps => LamX.codeO_ne ps) h6
  refine ⟨params, body, scope, ps, fr, qual, cl, c', pm, ctv, hl ▸ h1, h2, k1, k2, k3, k4, h7, h8, wv, h9.by_ r, h11, fun i y e => ?_⟩
  obtain ⟨c, o, u, v, q1, q2, q3, q4, q5, q6⟩ := h10 i y e
  obtain ⟨k5, k6⟩ := k _ _ q3 KO_tbl q4
  exact ⟨c, o, u, v, q1, q2, k5, k6, q5, q6⟩
theorem RepA.tr {T' : Tab} {v : V} {d : D} (hl : T'.lp = T.lp) (k : ∀ b o, H b = some o → (∀ ps, o ≠ .tbl ps) → Out T ρ b → H' b = some o ∧ Out T' ρ' b) (r : ∀ v d, Rep T ρ H v d → Rep T' ρ' H' v d)
    (h : RepA T ρ H v d) : RepA T' ρ' H' v d := h.imp (r v d) fun ⟨a, x, sz, np, cs, e1, e2, q⟩ => ⟨a, x, sz, np, cs, e1, e2, q.tr hl k r⟩
theorem RepA.mono {v : V} {d : D} (h : RepA T ρ H v d) (e : Ext ρ H ρ' H') : RepA T ρ' H' v d := h.tr rfl (fun b o q t n => ⟨e.keepN b o q t n.1, e.out q n.1, n.2⟩) fun v d r => r.mono e
inductive RepAL (T : Tab) (ρ : List Addr) (H : Hp) : List V → List D → Prop
  | nil : RepAL T ρ H [] []
  | cons {v : V} {vs : List V} {d : D} {ds : List D} : RepA T ρ H v d → RepAL T ρ H vs ds → RepAL T ρ H (v :: vs) (d :: ds)
theorem RepL.A : ∀ {vs : List V} {ds : List D}, RepL T ρ H vs ds → RepAL T ρ H vs ds
  | _, _, .nil => .nil
  | _, _, .cons h r => .cons (.inl h) (RepL.A r)
theorem RepAL.mono (e : Ext ρ H ρ' H') : ∀ {vs : List V} {ds : List D}, RepAL T ρ H vs ds → RepAL T ρ' H' vs ds
  | _, _, .nil => .nil
  | _, _, .cons h r => .cons (h.mono e) (RepAL.mono e r)
theorem RepAL.length : ∀ {vs : List V} {ds : List D}, RepAL T ρ H vs ds → vs.length = ds.length
  | _, _, .nil => rfl
  | _, _, .cons _ r => by simp [RepAL.length r]
theorem RepAL.append : ∀ {vs ws : List V} {ds es : List D}, RepAL T ρ H vs ds → RepAL T ρ H ws es → RepAL T ρ H (vs ++ ws) (ds ++ es)
  | _, _, _, _, .nil, s => s
  | _, _, _, _, .cons h r, s => .cons h (RepAL.append r s)
theorem RepAL.get : ∀ {vs : List V} {ds : List D} {i : Nat} {d : D}, RepAL T ρ H vs ds → ds[i]? = some d → ∃ v, vs[i]? = some v ∧ RepA T ρ H v d
  | _, _, _, _, .nil, e => by simp at e
  | _, _, 0, _, .cons h _, e => by simp at e; subst e; exact ⟨_, rfl, h⟩
  | _, _, i + 1, d, .cons _ r, e => by
    obtain ⟨v, h1, h2⟩ := RepAL.get (i := i) (d := d) r (by simpa using e)
    exact ⟨v, by simpa using h1, h2⟩
structure EnvOk (T : Tab) (ρ : List Addr) (H : Hp) (σ : L2.St) (γ : Env) : Prop where
  len : γ.length = σ.length
  at_ : ∀ (i : Nat) d, γ[i]? = some (some d) → ∃ v, σ[i]? = some (some v) ∧ RepA T ρ H v d
theorem EnvOk.mono {σ : L2.St} {γ : Env} (h : EnvOk T ρ H σ γ) (e : Ext ρ H ρ' H') : EnvOk T ρ' H' σ γ :=
  ⟨h.len, fun i d q => let ⟨v, h1, h2⟩ := h.at_ i d q; ⟨v, h1, h2.mono e⟩⟩
theorem CellAt.there {a : Addr} {c : Cell} (h : CellAt T ρ H a c) : ∃ o, H a = some o := by
  cases h with
  | lst h _ => exact ⟨_, h⟩
  | ins h _ _ => exact ⟨_, h⟩
  | exn0 h _ => exact ⟨_, h⟩
  | exn h _ _ _ _ _ => exact ⟨_, h⟩
theorem StoreOk.mem {cs : List Cell} (s : StoreOk T ρ H cs) {a : Addr} (h : a ∈ ρ) : ∃ (n : Nat) (c : Cell), ρ[n]? = some a ∧ cs[n]? = some c ∧ CellAt T ρ H a c := by
  obtain ⟨n, hn⟩ := List.getElem?_of_mem h
  have hl : n < cs.length := by rw [← s.len]; exact (List.getElem?_eq_some_iff.mp hn).1
  obtain ⟨a', h1, h2⟩ := s.at_ n cs[n] (by simp [hl])
  rw [hn] at h1; cases h1
  exact ⟨n, _, hn, by simp [hl], h2⟩
theorem StoreOk.there {cs : List Cell} (s : StoreOk T ρ H cs) {a : Addr} (h : a ∈ ρ) : ∃ o, H a = some o := by
  obtain ⟨_, _, _, _, q⟩ := s.mem h
  exact q.there
/-- a cell is kept where its object stands -/
theorem CellAt.keep {a : Addr} {c : Cell} (h : CellAt T ρ H a c) (e : Ext ρ H ρ' H') (k : H' a = H a) : CellAt T ρ' H' a c := by
  cases h with
  | lst h r => exact .lst (k.trans h) (r.mono e)
  | ins h c r => exact .ins (k.trans h) c (r.mono e)
  | exn0 h c => exact .exn0 (k.trans h) c
  | exn h d n c r z => exact .exn (k.trans h) (e.keep _ _ d n) (e.out d n) c (r.mono e) z
theorem tabs_upd {p : Addr} {o : HO} (t : LamX.Tabs T.tb H) (h : H p = none) : LamX.Tabs T.tb (L2.upd H p o) := t.ext fun b u e => by rw [upd_ne (ne_of_none e h)]; exact e
theorem tabs_write {p : Addr} {o u : HO} (t : LamX.Tabs T.tb H) (h : H p = some u) (n1 : ∀ ps, u ≠ .tbl ps) (n2 : ∀ φ, u ≠ .ext φ) : LamX.Tabs T.tb (L2.upd H p o) := fun q hq => by
  obtain ⟨ps, h1, h2, h3⟩ := t q hq
  refine ⟨ps, ?_, h2, fun pos cv hc => ?_⟩
  · rw [upd_ne (fun z => n1 ps (by rw [z, h] at h1; exact Option.some.inj h1))]; exact h1
  · obtain ⟨c, e1, e2⟩ := h3 pos cv hc
    refine ⟨c, e1, ?_⟩
    rw [upd_ne (fun z => n2 _ (by rw [z, h] at e2; exact Option.some.inj e2))]; exact e2
theorem hid_upd {p : Addr} {o : HO} (t : ∀ a ∈ T.hid, H a ≠ none ∧ a ∉ ρ) : ∀ a ∈ T.hid, L2.upd H p o a ≠ none ∧ a ∉ ρ := fun a ha => ⟨by
  by_cases q : a = p
  · rw [q, upd_same]; simp
  · rw [upd_ne q]; exact (t a ha).1, (t a ha).2⟩
theorem hx_upd {p : Addr} {o : HO} (h : H p = none) (t : ∀ a ∈ T.hid, H a ≠ none ∧ a ∉ ρ) (x : ∀ a ∈ T.hid, ∀ φ, H a ≠ some (.ext φ)) : ∀ a ∈ T.hid, ∀ φ, L2.upd H p o a ≠ some (.ext φ) := fun a ha φ => by
  have n : a ≠ p := fun z => (t a ha).1 (by rw [z]; exact h)
  rw [upd_ne n]
  exact x a ha φ
theorem hx_write {p : Addr} {o : HO} (h : p ∈ ρ) (t : ∀ a ∈ T.hid, H a ≠ none ∧ a ∉ ρ) (x : ∀ a ∈ T.hid, ∀ φ, H a ≠ some (.ext φ)) : ∀ a ∈ T.hid, ∀ φ, L2.upd H p o a ≠ some (.ext φ) := fun a ha φ => by
  have n : a ≠ p := fun z => (t a ha).2 (by rw [z]; exact h)
  rw [upd_ne n]
  exact x a ha φ
theorem StoreOk.upd {cs : List Cell} (s : StoreOk T ρ H cs) {p : Addr} {o : HO} (h : H p = none) : StoreOk T ρ (L2.upd H p o) cs :=
  ⟨s.len, s.nd, fun n c e => by
    obtain ⟨a, h1, h2⟩ := s.at_ n c e
    obtain ⟨u, hu⟩ := h2.there
    exact ⟨a, h1, h2.keep (Ext.upd h) (upd_ne (ne_of_none hu h))⟩, tabs_upd s.tb h, hid_upd s.hd, hx_upd h s.hd s.hx⟩
/-- a new cell -/
theorem StoreOk.push {cs : List Cell} (s : StoreOk T ρ H cs) {p : Addr} {o : HO} {c : Cell} (h : H p = none) (n : CellAt T (ρ ++ [p]) (L2.upd H p o) p c) : StoreOk T (ρ ++ [p]) (L2.upd H p o) (cs ++ [c]) := by
  have np : p ∉ ρ := fun m => by
    obtain ⟨u, hu⟩ := s.there m
    rw [h] at hu; cases hu
  refine ⟨by simp [s.len], ?_, fun m c' e => ?_, tabs_upd s.tb h, fun a ha => ⟨(hid_upd s.hd a ha).1, fun z => ?_⟩, hx_upd h s.hd s.hx⟩
  · rw [List.nodup_append]
    refine ⟨s.nd, by simp, fun a ha b hb => ?_⟩
    have e : b = p := by simpa using hb
    rw [e]
    exact fun z => np (z ▸ ha)
  · by_cases hm : m < cs.length
    · rw [List.getElem?_append_left hm] at e
      obtain ⟨a, h1, h2⟩ := s.at_ m c' e
      obtain ⟨u, hu⟩ := h2.there
      refine ⟨a, ?_, h2.keep (Ext.push h) (upd_ne (ne_of_none hu h))⟩
      rw [List.getElem?_append_left (by rw [s.len]; exact hm)]
      exact h1
    · rw [List.getElem?_append_right (by omega)] at e
      have hz : m - cs.length = 0 := by
        cases q : m - cs.length with
        | zero => rfl
        | succ k => rw [q] at e; simp at e
      rw [hz] at e
      have ec : c = c' := by simpa using e
      subst ec
      refine ⟨p, ?_, n⟩
      rw [List.getElem?_append_right (by rw [s.len]; omega), s.len, hz]
      rfl
  · rcases List.mem_append.mp z with z | z
    · exact (s.hd a ha).2 z
    · have e : a = p := by simpa using z
      exact (s.hd a ha).1 (e ▸ h)
/-- a cell is written -/
theorem StoreOk.write {cs : List Cell} (s : StoreOk T ρ H cs) {n : Nat} {p : Addr} {o u : HO} {c : Cell} (hn : ρ[n]? = some p) (hu : H p = some u) (n1 : ∀ ps, u ≠ .tbl ps) (n2 : ∀ φ, u ≠ .ext φ) (w : CellAt T ρ (L2.upd H p o) p c) : StoreOk T ρ (L2.upd H p o) (cs.set n c) := by
  have hp : p ∈ ρ := List.mem_of_getElem? hn
  refine ⟨by simp [s.len], s.nd, fun m c' e => ?_, tabs_write s.tb hu n1 n2, hid_upd s.hd, hx_write hp s.hd s.hx⟩
  have hl : n < cs.length := by rw [← s.len]; exact (List.getElem?_eq_some_iff.mp hn).1
  by_cases hm : m = n
  · subst hm
    rw [List.getElem?_set_self hl] at e
    cases e
    exact ⟨p, hn, w⟩
  · rw [List.getElem?_set_ne (Ne.symm hm)] at e
    obtain ⟨a, h1, h2⟩ := s.at_ m c' e
    have hne : a ≠ p := by
      intro z
      subst z
      obtain ⟨l1, e1⟩ := List.getElem?_eq_some_iff.mp h1
      obtain ⟨l2, e2⟩ := List.getElem?_eq_some_iff.mp hn
      exact hm ((List.getElem_inj s.nd).mp (e1.trans e2.symm))
    exact ⟨a, h1, h2.keep (Ext.write hp) (upd_ne hne)⟩
end

/-- an exception of the class c with these fields -/
def ExcOk (T : Tab) (ρ : List Addr) (H : Hp) (c : Str) (fs : List (Str × D)) (W : Value → Option Addr → Hp → Prop) : Prop :=
  ∀ C, T.cA c = some C → (fs = [] → W (.ref C) none H) ∧ (fs ≠ [] → ∀ d vs, H d = some (.xd vs) → d ∉ ρ → RepF T ρ H vs fs → W (.ref C) (some d) H)
/-- behind a run that began at ρ, H (fr: the cells below the base): what its answer's data wants -/
def Post (T : Tab) (fr : List Cell) {α : Type} (R : List Addr → Hp → α → Prop) (W : Value → Option Addr → Hp → Prop) (ρ : List Addr) (H : Hp) (r : Res α) : Prop :=
  match r with
  | .ok a c => ∀ ρ' H', Ext ρ H ρ' H' → StoreOk T ρ' H' (fr ++ c) → R ρ' H' a
  | .exc x fs c => ∀ ρ' H', Ext ρ H ρ' H' → StoreOk T ρ' H' (fr ++ c) → ExcOk T ρ' H' x fs W
  | .bad => False
section
variable {T : Tab} {fr : List Cell} {α β : Type} {R : List Addr → Hp → α → Prop} {W : Value → Option Addr → Hp → Prop} {ρ ρ1 : List Addr} {H H1 : Hp}
/-- later wants are weaker -/
theorem Post.later {r : Res α} (h : Post T fr R W ρ H r) (e : Ext ρ H ρ1 H1) : Post T fr R W ρ1 H1 r := by
  cases r with
  | ok a c => exact fun ρ' H' e' s => h ρ' H' (e.trans e') s
  | exc x fs c => exact fun ρ' H' e' s => h ρ' H' (e.trans e') s
  | bad => exact h
theorem Post.bind {r : Res α} {k : α → List Cell → Res β} {R : List Addr → Hp → β → Prop} (h : Post T fr R W ρ H (r.bind k)) :
    Post T fr (fun ρ1 H1 a => ∃ c, Ext ρ H ρ1 H1 ∧ StoreOk T ρ1 H1 (fr ++ c) ∧ r = .ok a c ∧ Post T fr R W ρ1 H1 (k a c)) W ρ H r := by
  cases r with
  | ok a c => exact fun ρ1 H1 e s => ⟨c, e, s, rfl, Post.later h e⟩
  | exc x fs c => exact h
  | bad => exact h
theorem Post.imp {r : Res α} {R' : List Addr → Hp → α → Prop} (h : Post T fr R W ρ H r) (f : ∀ ρ' H' a, Ext ρ H ρ' H' → R ρ' H' a → R' ρ' H' a) : Post T fr R' W ρ H r := by
  cases r with
  | ok a c => exact fun ρ' H' e s => f ρ' H' a e (h ρ' H' e s)
  | exc x fs c => exact h
  | bad => exact h
end
end MP
end
section
set_option maxRecDepth 100000
set_option maxHeartbeats 1000000
namespace MP
open PySem PySem.Spec PyProof.Rows L2

section
variable {T : Tab} {ρ ρ' : List Addr} {H H' : Hp} {fr c : List Cell} {x : V} {d : D}
theorem StoreOk.none_out (s : StoreOk T ρ H c) {p : Addr} (h : H p = none) : Out T ρ p := by
  refine ⟨fun m => ?_, fun m => (s.hd p m).1 h⟩
  obtain ⟨u, hu⟩ := s.there m
  rw [h] at hu
  cases hu
theorem cellAt_eq {n : Nat} {k : Cell} (h : cellAt fr.length c n = some k) : (fr ++ c)[n]? = some k ∧ fr.length ≤ n := by
  unfold cellAt at h
  split at h
  · rename_i hb
    refine ⟨?_, hb⟩
    rw [List.getElem?_append_right hb]
    exact h
  · cases h
theorem Rep.cell (r : Rep T ρ H x (.ref n)) (s : StoreOk T ρ H (fr ++ c)) {k : Cell} (h : cellAt fr.length c n = some k) : ∃ a, x = .ref a ∧ ρ[n]? = some a ∧ CellAt T ρ H a k := by
  obtain ⟨e, _⟩ := cellAt_eq h
  obtain ⟨a, h1, h2⟩ := s.at_ n k e
  cases r with
  | ref h3 =>
    rw [h1] at h3; cases h3
    exact ⟨_, rfl, h1, h2⟩
/-- a list (of the store or not) -/
theorem Rep.deref (r : Rep T ρ H x d) (s : StoreOk T ρ H (fr ++ c)) {xs : List D} (h : deref fr.length c d = .lst xs) : ∃ a vs, x = .ref a ∧ H a = some (.lst vs) ∧ RepL T ρ H vs xs := by
  cases d with
  | ref n =>
    have h' : (match cellAt fr.length c n with
      | some (.lst xs) => D.lst xs
      | _ => .ref n) = .lst xs := h
    cases q : cellAt fr.length c n with
    | none => rw [q] at h'; cases h'
    | some k =>
      rw [q] at h'
      cases k with
      | lst ys =>
        cases h'
        obtain ⟨a, e, _, z⟩ := r.cell s q
        cases z with
        | lst h1 h2 => exact ⟨a, _, e, h1, h2⟩
      | ins _ _ => cases h'
      | exn _ _ => cases h'
  | lst ys =>
    cases h
    cases r with
    | lst h1 _ h2 => exact ⟨_, _, rfl, h1, h2⟩
  | _ => cases h
theorem KTup.sq {K : PySem.W.Frag} {a : Addr} {vs : List V} (h : KTup K a vs) : SqT K H a vs := by
  obtain ⟨o, its, n, h1, h2, _, h3⟩ := h
  exact .inr ⟨o, its, n, h1, h2, h3⟩
theorem KLst.sq {K : PySem.W.Frag} {a : Addr} {vs : List V} (h : KLst K a vs) : SqL K H a vs := .inr h
theorem Rep.tupE {ds : List D} (r : Rep T ρ H x (.tup ds)) : ∃ a vs, x = .ref a ∧ SqT T.K H a vs ∧ RepL T ρ H vs ds := by
  cases r with
  | tup h _ _ r => exact ⟨_, _, rfl, .inl (.inr ⟨_, h⟩), r⟩
  | tupK h r => exact ⟨_, _, rfl, h.sq, r⟩
theorem Rep.scrE {ns : List Int} (r : Rep T ρ H x (.scr ns)) : ∃ a, x = .ref a ∧ SqL T.K H a (ns.map V.int) := by
  cases r with
  | scr h _ => exact ⟨_, rfl, .inl (.inr ⟨_, h⟩)⟩
  | scrK h => exact ⟨_, rfl, h.sq⟩
theorem Rep.seq (r : Rep T ρ H x d) (s : StoreOk T ρ H (fr ++ c)) {xs : List D} (h : seqOf fr.length c d = some xs) : ∃ a vs, x = .ref a ∧ (SqL T.K H a vs ∨ SqT T.K H a vs) ∧ RepL T ρ H vs xs := by
  cases d with
  | tup ys =>
    cases h
    obtain ⟨a, vs, e, q, r⟩ := r.tupE
    exact ⟨a, vs, e, .inr q, r⟩
  | lst ys =>
    cases h
    cases r with
    | lst h1 _ h2 => exact ⟨_, _, rfl, .inl (SqL.of h1), h2⟩
  | scr ns =>
    cases h
    obtain ⟨a, e, q⟩ := r.scrE
    exact ⟨a, _, e, .inl q, RepL.ints ns⟩
  | ref n =>
    have h' : (match cellAt fr.length c n with
      | some (.lst xs) => some xs
      | _ => none) = some xs := h
    cases q : cellAt fr.length c n with
    | none => rw [q] at h'; cases h'
    | some k =>
      rw [q] at h'
      cases k with
      | lst ys =>
        cases h'
        obtain ⟨a, e, _, z⟩ := r.cell s q
        cases z with
        | lst h1 h2 => exact ⟨a, _, e, .inl (SqL.of h1), h2⟩
      | ins _ _ => cases h'
      | exn _ _ => cases h'
  | _ => cases h
end

section
variable {X : Cx} {pins : List (Addr × Obj)} {σ : L2.St} {H : Hp} {s : Shared}
theorem laidF {its : List Value} {vs : List V} {t' : Nat} (I : Inv X pins σ H s) (r : Vals vs its) (z : vs.length ≤ sizeLine) :
    Inv X pins σ (L2.upd H s.heap.objs.size (.frz { cls := .type "tuple", data := .seq its.toArray } (.tup vs))) { s with heap := s.heap.push { cls := .type "tuple", data := .seq its.toArray }, toks := t' } :=
  I.laid (t' := t') (fun b u e => Heap.get?_push_of_some _ e) (Nat.le_refl _) ⟨Heap.get?_push_size _ rfl, z, its, r, IsTup.new _ _⟩
/-- a new tuple -/
def NewT (vs : List V) (H : Hp) (Q : VK) : Prop := ∀ p o, o.dict = none → H p = none → Q (.ref p) (L2.upd H p (.frz o (.tup vs)))
def tTupF (t : TA) : TE := fun σ H Q => t σ H fun xs H1 => xs.length ≤ sizeLine ∧ NewT xs H1 Q
theorem pe_tupF {es : List Expr} {t : TA} {pos : Pos} {x1} (h : PA X es t) : PE X (.Tuple es x1 pos) (tTupF t) := by
  refine ⟨fun pins s σ H Q I hq => ?_⟩
  refine wpAny_Tuple_spliced (thn (h.run pos pins s σ H _ I hq) fun us s1 ⟨xs, H1, I1, r, z, q⟩ => ⟨by rw [← r.length]; exact z, ?_⟩)
  exact ⟨.ref s1.heap.objs.size, _, laidF (t' := s1.toks) I1 r z, rfl, q _ _ rfl (I1.hok.fresh (Nat.le_refl _))⟩
def rCatF (K : PySem.W.Frag) : R2 := fun x y H Q => ∃ a b xs ys, x = .ref a ∧ y = .ref b ∧ SqT K H a xs ∧ SqT K H b ys ∧ xs.length + ys.length ≤ sizeLine ∧
  (xs = [] → Q (.ref b) H) ∧ (xs ≠ [] → ys = [] → Q (.ref a) H) ∧ (xs ≠ [] → ys ≠ [] → NewT (xs ++ ys) H Q)
theorem op_catF : OpR X (binaryOp .Add) (rCatF X.K) := by
  intro pins s σ H x y v u Q I rx ry h
  obtain ⟨a, b, xs, ys, rfl, rfl, ha, hb, hz, q0, q1, q2⟩ := h
  cases rx
  cases ry
  obtain ⟨its, r1, p1, _⟩ := I.tuple ha
  obtain ⟨its2, r2, p2, _⟩ := I.tuple hb
  by_cases hx : xs = []
  · subst hx
    cases r1
    exact cat_tup0 p1 p2 ⟨.ref b, H, I, rfl, q0 rfl⟩
  · refine HT.cat_tup p1 p2 (fun z => hx (r1.nil_iff.mp z)) (fun z => ⟨.ref a, H, I, rfl, q1 hx (r2.nil_iff.mp z)⟩) (fun z => ?_) (by rw [← r1.length, ← r2.length]; exact hz)
    exact ⟨.ref s.heap.objs.size, _, laidF (t' := s.toks) I (r1.append r2) (by rw [List.length_append]; exact hz), rfl, q2 hx (fun w => z (r2.nil_iff.mpr w)) _ _ rfl (I.hok.fresh (Nat.le_refl _))⟩
def rSlF (K : PySem.W.Frag) : V → Option Int → Option Int → Hp → VK → Prop := fun x lo hi H Q => ∃ a xs, x = .ref a ∧ SqT K H a xs ∧
  (HT.sIx xs.length 0 lo = 0 ∧ HT.sIx xs.length xs.length hi = xs.length → Q (.ref a) H) ∧ NewT (cutV xs lo hi) H Q
theorem sl_tupF : SlR X (rSlF X.K) := by
  intro pins s σ H x v vl vu lo hi sl Q I rx hs pl pu h
  obtain ⟨a, xs, rfl, hx, q1, q2⟩ := h
  cases rx
  obtain ⟨its, r, ht, hz⟩ := I.tuple hx
  have hlen : its.toArray.size = xs.length := by rw [List.size_toArray]; exact r.length.symm
  refine ⟨"tuple", _, PyProof.Rows.slot_tuple_getitem.lookup, ht.typeIs, ?_⟩
  by_cases hw : HT.sIx xs.length 0 lo = 0 ∧ HT.sIx xs.length xs.length hi = xs.length
  · exact getItem_tuple_whole ht hs pl pu (by rw [hlen]; exact hw) ⟨.ref a, H, I, rfl, q1 hw⟩
  · refine HT.getItem_tuple_cut ht hs pl pu (by rw [hlen]; exact hw) ?_ (by rw [hlen]; exact hz)
    rw [hlen]
    have r2 : Vals (cutV xs lo hi) ((its.drop (HT.sIx xs.length 0 lo)).take (HT.sIx xs.length xs.length hi - HT.sIx xs.length 0 lo)) := (r.drop _).take _
    exact ⟨.ref s.heap.objs.size, _, laidF (t' := s.toks) I r2 (Nat.le_trans (cutV_length xs lo hi) hz), rfl, q2 _ _ rfl (I.hok.fresh (Nat.le_refl _))⟩
theorem call_tupleF : CallR X (.type "tuple") (fun xs H Q => ∃ p ys, xs = [.ref p] ∧ ((SqL X.K H p ys ∧ NewT ys H Q) ∨ (SqT X.K H p ys ∧ Q (.ref p) H))) := by
  intro pins s σ H xs us Q I r h
  obtain ⟨p, ys, rfl, h⟩ := h
  obtain ⟨u, rfl, rx⟩ := vals1 r
  cases rx
  rcases h with ⟨hq, q⟩ | ⟨hq, q⟩
  · obtain ⟨its, r', pl, hz⟩ := I.list hq
    have hlen := r'.length
    refine call_tuple_list pl.isList (fun h' kp => ?_) (by simp only [List.size_toArray] <;> omega)
    have I1 : Inv X pins σ H { s with heap := h' } := I.kept (t' := s.toks) kp
    exact ⟨.ref h'.objs.size, _, laidF (t' := s.toks) I1 r' hz, rfl, q _ _ rfl (I1.hok.fresh (Nat.le_refl _))⟩
  · obtain ⟨its, r', pl, hz⟩ := I.tuple hq
    exact call_tuple_same pl ⟨.ref p, H, I, rfl, q⟩
end
/-- data of a new tuple -/
theorem NewT.of {T : Tab} {ρ : List Addr} {H : Hp} {c : List Cell} {vs : List V} {ds : List D} {Q : VK} (st : StoreOk T ρ H c) (r : RepL T ρ H vs ds)
    (q : ∀ H' v, Ext ρ H ρ H' → StoreOk T ρ H' c → Rep T ρ H' v (.tup ds) → Q v H') : NewT vs H Q := fun p o ho hp =>
  q _ _ (Ext.upd hp) (st.upd hp) (.tup upd_same ho (st.none_out hp) (r.mono (Ext.upd hp)))

/-- what a data function of two wants -/
def rB (T : Tab) (f : Nat → List Cell → D → D → Option D) : R2 := fun x y H Q => ∃ ρ fr c dx dy d, StoreOk T ρ H (fr ++ c) ∧ Rep T ρ H x dx ∧ Rep T ρ H y dy ∧ f fr.length c dx dy = some d ∧
  ∀ ρ' H' v, Ext ρ H ρ' H' → StoreOk T ρ' H' (fr ++ c) → Rep T ρ' H' v d → Q v H'
section
variable {T : Tab} {X : Cx} (hK : X.K = T.K) (hu : X.A.units + 80 < cLine)
include hK
theorem op_Add : OpR X (binaryOp .Add) (rB T (binSem .Add)) := by
  intro pins s σ H x y v u Q I rx ry h
  obtain ⟨ρ, fr, c, dx, dy, d, st, hx, hy, e, q⟩ := h
  have same : ∀ v, Rep T ρ H v d → Q v H := fun v r => q ρ H v (Ext.refl ρ H) st r
  have newL : ∀ xs ys, deref fr.length c dx = .lst xs → deref fr.length c dy = .lst ys → (if xs.length + ys.length ≤ sizeLine then some (D.lst (xs ++ ys)) else none) = some d → wpAny (model X.prog X.w) X.A (binaryOp .Add v u) (EP X pins σ Q) X.xe s := by
    intro xs ys h1 h2 e
    obtain ⟨a, vs, rfl, ha, ra⟩ := hx.deref st h1
    obtain ⟨b, ws, rfl, hb, rb⟩ := hy.deref st h2
    split at e
    · rename_i hz
      cases e
      refine op_cat pins s σ H _ _ v u Q I rx ry ⟨a, b, vs, ws, rfl, rfl, ha, hb, ?_, fun p hp => q ρ _ _ (Ext.upd hp) (st.upd hp) (.lst upd_same (st.none_out hp) ((ra.append rb).mono (Ext.upd hp)))⟩
      rw [ra.length, rb.length]
      exact hz
    · cases e
  unfold binSem at e
  dsimp only at e
  split at e
  · cases e
    cases hx; cases hy
    exact op_add pins s σ H _ _ v u Q I rx ry ⟨_, _, rfl, rfl, same _ (.int _)⟩
  · split at e
    · rename_i hz
      cases e
      cases hx; cases hy
      exact op_add_str pins s σ H _ _ v u Q I rx ry ⟨_, _, rfl, rfl, hz, same _ (.str _)⟩
    · cases e
  · rename_i xs ys
    split at e
    · rename_i hz
      cases e
      obtain ⟨a, vs, rfl, ha, ra⟩ := hx.tupE
      obtain ⟨b, ws, rfl, hb, rb⟩ := hy.tupE
      rw [← hK] at ha hb
      refine op_catF pins s σ H _ _ v u Q I rx ry ⟨a, b, vs, ws, rfl, rfl, ha, hb, by rw [ra.length, rb.length]; exact hz, fun e1 => ?_, fun _ e1 => ?_, fun _ _ => ?_⟩
      · subst e1
        cases ra
        exact same _ hy
      · subst e1
        cases rb
        refine same _ ?_
        rw [List.append_nil]
        exact hx
      · exact NewT.of st (ra.append rb) fun H' v e s r => q ρ H' v e s r
    · cases e
  · split at e
    · rename_i h1 h2
      exact newL _ _ h1 h2 e
    · cases e
omit hK in
theorem op_Sub : OpR X (binaryOp .Sub) (rB T (binSem .Sub)) := by
  intro pins s σ H x y v u Q I rx ry h
  obtain ⟨ρ, fr, c, dx, dy, d, st, hx, hy, e, q⟩ := h
  have same : ∀ v, Rep T ρ H v d → Q v H := fun v r => q ρ H v (Ext.refl ρ H) st r
  unfold binSem at e
  dsimp only at e
  split at e
  · cases e
    cases hx; cases hy
    exact op_sub pins s σ H _ _ v u Q I rx ry ⟨_, _, rfl, rfl, same _ (.int _)⟩
  · cases e
omit hK in
theorem op_Mul : OpR X (binaryOp .Mult) (rB T (binSem .Mult)) := by
  intro pins s σ H x y v u Q I rx ry h
  obtain ⟨ρ, fr, c, dx, dy, d, st, hx, hy, e, q⟩ := h
  have same : ∀ v, Rep T ρ H v d → Q v H := fun v r => q ρ H v (Ext.refl ρ H) st r
  unfold binSem at e
  dsimp only at e
  split at e
  · rename_i i j
    split at e
    · rename_i hz
      cases e
      cases hx; cases hy
      refine op_mul pins s σ H _ _ v u Q I rx ry ⟨_, _, rfl, rfl, ?_, same _ (.int _)⟩
      simp only [small64, Bool.or_eq_true, Bool.and_eq_true, decide_eq_true_eq] at hz
      exact hz
    · cases e
  · rename_i k _
    split at e
    · rename_i xs h1
      split at e
      · rename_i hz
        cases e
        obtain ⟨a, vs, rfl, ha, ra⟩ := hx.deref st h1
        cases hy
        simp only [Bool.and_eq_true, decide_eq_true_eq] at hz
        refine op_rep pins s σ H _ _ v u Q I rx ry ⟨a, k, vs, rfl, rfl, ha, hz.1, hz.2.1, by rw [ra.length]; exact hz.2.2, fun p hp => ?_⟩
        exact q ρ _ _ (Ext.upd hp) (st.upd hp) (.lst upd_same (st.none_out hp) ((ra.rep _).mono (Ext.upd hp)))
      · cases e
    · cases e
  · cases e
omit hK in
theorem op_Fdiv : OpR X (binaryOp .FloorDiv) (rB T (binSem .FloorDiv)) := by
  intro pins s σ H x y v u Q I rx ry h
  obtain ⟨ρ, fr, c, dx, dy, d, st, hx, hy, e, q⟩ := h
  have same : ∀ v, Rep T ρ H v d → Q v H := fun v r => q ρ H v (Ext.refl ρ H) st r
  unfold binSem at e
  dsimp only at e
  split at e
  · split at e
    · rename_i hz
      cases e
      cases hx; cases hy
      simp only [Bool.and_eq_true, decide_eq_true_eq] at hz
      exact op_fdiv pins s σ H _ _ v u Q I rx ry ⟨_, _, rfl, rfl, hz, same _ (.int _)⟩
    · cases e
  · cases e
omit hK in
theorem op_Mod : OpR X (binaryOp .Mod) (rB T (binSem .Mod)) := by
  intro pins s σ H x y v u Q I rx ry h
  obtain ⟨ρ, fr, c, dx, dy, d, st, hx, hy, e, q⟩ := h
  have same : ∀ v, Rep T ρ H v d → Q v H := fun v r => q ρ H v (Ext.refl ρ H) st r
  unfold binSem at e
  dsimp only at e
  split at e
  · split at e
    · rename_i hz
      cases e
      cases hx; cases hy
      exact op_mod pins s σ H _ _ v u Q I rx ry ⟨_, _, rfl, rfl, hz, same _ (.int _)⟩
    · cases e
  · cases e
omit hK in
theorem op_Pow : OpR X (binaryOp .Pow) (rB T (binSem .Pow)) := by
  intro pins s σ H x y v u Q I rx ry h
  obtain ⟨ρ, fr, c, dx, dy, d, st, hx, hy, e, q⟩ := h
  have same : ∀ v, Rep T ρ H v d → Q v H := fun v r => q ρ H v (Ext.refl ρ H) st r
  unfold binSem at e
  dsimp only at e
  split at e
  · split at e
    · rename_i hz
      cases e
      cases hx; cases hy
      simp only [Bool.and_eq_true, decide_eq_true_eq] at hz
      exact op_pow pins s σ H _ _ v u Q I rx ry ⟨_, _, rfl, rfl, hz, same _ (.int _)⟩
    · cases e
  · cases e
theorem op_bin (op : Operator) : OpR X (binaryOp op) (rB T (binSem op)) := by
  cases op with
  | Add => exact op_Add hK
  | Sub => exact op_Sub
  | Mult => exact op_Mul
  | FloorDiv => exact op_Fdiv
  | Mod => exact op_Mod
  | Pow => exact op_Pow
  | _ => intro pins s σ H x y v u Q I rx ry h; obtain ⟨ρ, fr, c, dx, dy, d, st, hx, hy, e, q⟩ := h; cases e

end
section
variable {T : Tab}
mutual
theorem Rep.toP {ρ : List Addr} {H : Hp} : ∀ {d : D} {v : V} {p : PyData}, Rep T ρ H v d → MP.toP d = some p → Dp T.K H v p
  | .non, _, _, r, e => by cases e; cases r; exact .non
  | .bl b, _, _, r, e => by cases e; cases r; exact .bl b
  | .int i, _, _, r, e => by cases e; cases r; exact .int i
  | .str s, _, _, r, e => by cases e; cases r; exact .str s
  | .tup xs, _, _, r, e => by
    obtain ⟨a, vs, rfl, h, rl⟩ := r.tupE
    obtain ⟨ps, h1, rfl⟩ := Option.map_eq_some_iff.mp (show (toPs xs).map PyData.tuple = some _ from e)
    exact .tup h (RepL.toPs rl h1)
  | .lst xs, _, _, r, e => by
    obtain ⟨ps, h1, rfl⟩ := Option.map_eq_some_iff.mp (show (toPs xs).map PyData.list = some _ from e)
    cases r with
    | lst h _ rl => exact .lst (SqL.of h) (RepL.toPs rl h1)
  | .dic _, _, _, _, e => by cases e
  | .ins _ _, _, _, _, e => by cases e
  | .ref _, _, _, _, e => by cases e
  | .cls _, _, _, _, e => by cases e
  | .fn _, _, _, _, e => by cases e
  | .lam _ _ _ _, _, _, _, e => by cases e
  | .scr _, _, _, _, e => by cases e
theorem RepL.toPs {ρ : List Addr} {H : Hp} : ∀ {ds : List D} {vs : List V} {ps : List PyData}, RepL T ρ H vs ds → MP.toPs ds = some ps → DpAll T.K H vs ps
  | [], _, _, r, e => by cases e; cases r; exact .nil
  | d :: ds, _, _, r, e => by
    cases r with
    | cons h1 h2 =>
      have e' : (match MP.toP d, MP.toPs ds with
        | some y, some ys => some (y :: ys)
        | _, _ => none) = some _ := e
      cases q1 : MP.toP d with
      | none => rw [q1] at e'; cases e'
      | some y =>
        rw [q1] at e'
        cases q2 : MP.toPs ds with
        | none => rw [q2] at e'; cases e'
        | some ys =>
          rw [q2] at e'
          cases e'
          exact .cons (Rep.toP h1 q1) (RepL.toPs h2 q2)
end
end
end MP
end
section
set_option maxRecDepth 100000
set_option maxHeartbeats 1000000
namespace MP
open PySem PySem.Spec PyProof.Rows L2

section
variable {T : Tab} {ρ ρ' : List Addr} {H H' : Hp} {fr c : List Cell} {x y : V} {d : D}
theorem Rep.dpD (r : Rep T ρ H x d) (s : StoreOk T ρ H (fr ++ c)) {p : PyData} (h : MP.toP (MP.deref fr.length c d) = some p) : Dp T.K H x p := by
  cases d with
  | ref n =>
    cases q : cellAt fr.length c n with
    | none =>
      have e : MP.deref fr.length c (.ref n) = .ref n := by unfold MP.deref; dsimp only; rw [q]
      rw [e] at h; cases h
    | some k =>
      cases k with
      | lst xs =>
        have e : MP.deref fr.length c (.ref n) = .lst xs := by unfold MP.deref; dsimp only; rw [q]
        rw [e] at h
        obtain ⟨a, vs, rfl, ha, ra⟩ := r.deref s e
        obtain ⟨ps, h1, rfl⟩ := Option.map_eq_some_iff.mp (show (toPs xs).map PyData.list = some p from h)
        exact .lst (SqL.of ha) (RepL.toPs ra h1)
      | ins _ _ =>
        have e : MP.deref fr.length c (.ref n) = .ref n := by unfold MP.deref; dsimp only; rw [q]
        rw [e] at h; cases h
      | exn _ _ =>
        have e : MP.deref fr.length c (.ref n) = .ref n := by unfold MP.deref; dsimp only; rw [q]
        rw [e] at h; cases h
  | _ => exact Rep.toP r h
theorem eqSem_of {dx dy : D} {k : Bool} (h : eqSem fr.length c dx dy = some k) (hx : Rep T ρ H x dx) (hy : Rep T ρ H y dy) (s : StoreOk T ρ H (fr ++ c)) :
    ∃ p q, Dp T.K H x p ∧ Dp T.K H y q ∧ SeqAt.shaped p = true ∧ SeqAt.shaped q = true ∧ k = PyData.eqv p q := by
  unfold eqSem at h
  split at h
  · rename_i p q hp hq
    split at h
    · rename_i hz
      cases h
      rw [Bool.and_eq_true] at hz
      exact ⟨p, q, hx.dpD s hp, hy.dpD s hq, hz.1, hz.2, rfl⟩
    · cases h
  · cases h
theorem Rep.isNon (r : Rep T ρ H x d) : decide (x = V.non) = MP.isNon d := by
  cases r with
  | non => rfl
  | _ => exact decide_eq_false (fun z => nomatch z)
theorem Rep.flat (r : Rep T ρ H x d) (h : MP.flat d = true) : flatV x = true := by
  cases r with
  | non => rfl
  | bl _ => rfl
  | int _ => rfl
  | str _ => rfl
  | _ => cases h
theorem Rep.eqF (r : Rep T ρ H x d) {e : D} (q : Rep T ρ H y e) (h1 : MP.flat d = true) (h2 : MP.flat e = true) : eqV x y = MP.eqF d e := by
  cases r with
  | non => cases q with
    | non => rfl
    | bl _ => rfl
    | int _ => rfl
    | str _ => rfl
    | _ => cases h2
  | bl _ => cases q with
    | non => rfl
    | bl _ => rfl
    | int _ => rfl
    | str _ => rfl
    | _ => cases h2
  | int _ => cases q with
    | non => rfl
    | bl _ => rfl
    | int _ => rfl
    | str _ => rfl
    | _ => cases h2
  | str _ => cases q with
    | non => rfl
    | bl _ => rfl
    | int _ => rfl
    | str _ => rfl
    | _ => cases h2
  | _ => cases h1
theorem RepL.flats : ∀ {vs : List V} {ds : List D}, RepL T ρ H vs ds → ds.all MP.flat = true → vs.all flatV = true
  | _, _, .nil, _ => rfl
  | _, _, .cons h r, e => by
    rw [List.all_cons, Bool.and_eq_true] at e ⊢
    exact ⟨h.flat e.1, RepL.flats r e.2⟩
theorem RepL.inV (rx : Rep T ρ H x d) (fx : MP.flat d = true) : ∀ {vs : List V} {ds : List D}, RepL T ρ H vs ds → ds.all MP.flat = true → L2.inV x vs = ds.any fun z => MP.eqF z d
  | _, _, .nil, _ => rfl
  | v :: vs, e :: ds, .cons h r, f => by
    rw [List.all_cons, Bool.and_eq_true] at f
    show (eqV v x || L2.inV x vs) = (MP.eqF e d || ds.any fun z => MP.eqF z d)
    rw [h.eqF rx f.1 fx, RepL.inV rx fx r f.2]
theorem keyOf_rep {k : Key} (r : Rep T ρ H x d) (h : keyOf d = some k) : x = kV k := by
  cases d with
  | int i => cases h; cases r; rfl
  | str s => cases h; cases r; rfl
  | _ => cases h
theorem keyOf_kD (k : Key) : keyOf (kD k) = some k := by cases k <;> rfl
theorem RepK.look {k : Key} : ∀ {kvs : List (Key × V)} {ds : List (D × D)} {es : List (Key × D)}, RepK T ρ H kvs ds → keysOf ds = some es →
    (valV kvs k).isSome = (MP.look es k).isSome ∧ ∀ d, MP.look es k = some d → ∃ v, valV kvs k = some v ∧ Rep T ρ H v d
  | _, _, _, .nil, e => by cases e; exact ⟨rfl, fun d z => nomatch z⟩
  | (j, v) :: kvs, (_, d) :: ds, es, .cons h r, e => by
    have e' : (match keyOf (kD j), keysOf ds with
      | some k, some r => some ((k, d) :: r)
      | _, _ => none) = some es := e
    rw [keyOf_kD] at e'
    cases q : keysOf ds with
    | none => rw [q] at e'; cases e'
    | some es' =>
      rw [q] at e'
      cases e'
      obtain ⟨i1, i2⟩ := RepK.look (k := k) r q
      by_cases hj : j = k
      · subst hj
        have e1 : valV ((j, v) :: kvs) j = some v := by simp [valV, List.find?_cons]
        have e2 : MP.look ((j, d) :: es') j = some d := by simp [MP.look, List.find?_cons]
        rw [e1, e2]
        exact ⟨rfl, fun d' z => by cases z; exact ⟨v, rfl, h⟩⟩
      · have e1 : valV ((j, v) :: kvs) k = valV kvs k := by simp [valV, List.find?_cons, hj]
        have e2 : MP.look ((j, d) :: es') k = MP.look es' k := by simp [MP.look, List.find?_cons, hj]
        rw [e1, e2]
        exact ⟨i1, i2⟩
theorem Rep.dicE {kvs : List (D × D)} (r : Rep T ρ H x (.dic kvs)) : ∃ a vs, x = .ref a ∧ H a = some (.dK vs) ∧ RepK T ρ H vs kvs := by
  cases r with
  | dic h _ r => exact ⟨_, _, rfl, h, r⟩
end

section
variable {T : Tab} {X : Cx} (hK : X.K = T.K) (hu : X.A.units + 80 < cLine)
include hK hu
/-- a comparison's reading: data answers -/
def rC (T : Tab) (f : Nat → List Cell → D → D → Option Bool) : R2 := fun x y H Q => ∃ ρ fr c dx dy k, StoreOk T ρ H (fr ++ c) ∧ Rep T ρ H x dx ∧ Rep T ρ H y dy ∧ f fr.length c dx dy = some k ∧ Q (.bl k) H
omit hK hu in
theorem op_intc {op : CmpOp} {p : Int → Int → Bool} (ho : OpR X (compareOp op) (rI0 fun i j => .bl (p i j)))
    (he : ∀ b c x y, cmpSem op b c x y = match x, y with
      | .int i, .int j => some (p i j)
      | _, _ => none) : OpR X (compareOp op) (rC T (cmpSem op)) := by
  intro pins s σ H x y v u Q I rx ry h
  obtain ⟨ρ, fr, c, dx, dy, k, st, hx, hy, e, q⟩ := h
  rw [he] at e
  split at e
  · cases e
    cases hx; cases hy
    exact ho pins s σ H _ _ v u Q I rx ry ⟨_, _, rfl, rfl, q⟩
  · cases e
theorem op_in : OpR X (compareOp .In) (rC T inSem) := by
  intro pins s σ H x y v u Q I rx ry h
  obtain ⟨ρ, fr, c, dx, dy, k, st, hx, hy, e, q⟩ := h
  unfold inSem at e
  split at e
  · split at e
    · cases e
      cases hx; cases hy
      exact op_in_str pins s σ H _ _ v u Q I rx ry ⟨_, _, rfl, rfl, q⟩
    · cases e
  · split at e
    · rename_i h1 h2
      cases e
      obtain ⟨a, vs, rfl, ha, r⟩ := hy.dicE
      cases keyOf_rep hx h1
      cases ry
      obtain ⟨i1, _⟩ := r.look (k := _) h2
      refine d_in (by omega) I (DGet.k ha) rx fun s' I' => ⟨.bl _, H, I', rfl, ?_⟩
      rw [i1]
      exact q
    · cases e
  · split at e
    · rename_i h1
      split at e
      · rename_i hz
        cases e
        rw [Bool.and_eq_true] at hz
        obtain ⟨a, vs, rfl, hs, r⟩ := hy.seq st h1
        rw [← hK] at hs
        refine op_in_seq pins s σ H _ _ v u Q I rx ry ⟨a, vs, rfl, hs, hx.flat hz.1, r.flats hz.2, ?_⟩
        rw [if_neg Bool.false_ne_true, RepL.inV hx hz.1 r hz.2]
        exact q
      · cases e
    · cases e
theorem op_notIn : OpR X (compareOp .NotIn) (rC T fun b c x y => (inSem b c x y).map (!·)) := by
  intro pins s σ H x y v u Q I rx ry h
  obtain ⟨ρ, fr, c, dx, dy, k, st, hx, hy, e, q⟩ := h
  obtain ⟨k', e2, rfl⟩ := Option.map_eq_some_iff.mp e
  clear e
  have e := e2
  clear e2
  unfold inSem at e
  split at e
  · split at e
    · cases e
      cases hx; cases hy
      exact op_notIn_str pins s σ H _ _ v u Q I rx ry ⟨_, _, rfl, rfl, q⟩
    · cases e
  · split at e
    · rename_i h1 h2
      cases e
      obtain ⟨a, vs, rfl, ha, r⟩ := hy.dicE
      cases keyOf_rep hx h1
      cases ry
      obtain ⟨i1, _⟩ := r.look (k := _) h2
      refine d_notIn (by omega) I (DGet.k ha) rx fun s' I' => ⟨.bl _, H, I', rfl, ?_⟩
      rw [i1]
      exact q
    · cases e
  · split at e
    · rename_i h1
      split at e
      · rename_i hz
        cases e
        rw [Bool.and_eq_true] at hz
        obtain ⟨a, vs, rfl, hs, r⟩ := hy.seq st h1
        rw [← hK] at hs
        refine op_notIn_seq pins s σ H _ _ v u Q I rx ry ⟨a, vs, rfl, hs, hx.flat hz.1, r.flats hz.2, ?_⟩
        rw [if_pos rfl, RepL.inV hx hz.1 r hz.2]
        exact q
      · cases e
    · cases e
theorem op_cmp (op : CmpOp) : OpR X (compareOp op) (rC T (cmpSem op)) := by
  cases op with
  | Lt => exact op_intc op_lt fun _ _ _ _ => rfl
  | LtE => exact op_intc op_le fun _ _ _ _ => rfl
  | Gt => exact op_intc op_gt fun _ _ _ _ => rfl
  | GtE => exact op_intc op_ge fun _ _ _ _ => rfl
  | In => exact op_in hK hu
  | NotIn => exact op_notIn hK hu
  | Eq =>
    intro pins s σ H x y v u Q I rx ry h
    obtain ⟨ρ, fr, c, dx, dy, k, st, hx, hy, e, q⟩ := h
    obtain ⟨p, r, hp, hr, s1, s2, rfl⟩ := eqSem_of (show eqSem fr.length c dx dy = some k from e) hx hy st
    rw [← hK] at hp hr
    exact op_eqD (by omega) pins s σ H x y v u Q I rx ry ⟨p, r, hp, hr, s1, s2, q⟩
  | NotEq =>
    intro pins s σ H x y v u Q I rx ry h
    obtain ⟨ρ, fr, c, dx, dy, k, st, hx, hy, e, q⟩ := h
    obtain ⟨k', e2, rfl⟩ := Option.map_eq_some_iff.mp (show (eqSem fr.length c dx dy).map (!·) = some k from e)
    obtain ⟨p, r, hp, hr, s1, s2, rfl⟩ := eqSem_of e2 hx hy st
    rw [← hK] at hp hr
    exact op_neD (by omega) pins s σ H x y v u Q I rx ry ⟨p, r, hp, hr, s1, s2, q⟩
  | Is =>
    intro pins s σ H x y v u Q I rx ry h
    obtain ⟨ρ, fr, c, dx, dy, k, st, hx, hy, e, q⟩ := h
    have e' : (if isNon dy then some (isNon dx) else none) = some k := e
    split at e'
    · rename_i hn
      cases e'
      have z := hy.isNon
      rw [hn] at z
      exact op_isN pins s σ H x y v u Q I rx ry ⟨of_decide_eq_true z, by rw [hx.isNon]; exact q⟩
    · cases e'
  | IsNot =>
    intro pins s σ H x y v u Q I rx ry h
    obtain ⟨ρ, fr, c, dx, dy, k, st, hx, hy, e, q⟩ := h
    have e' : (if isNon dy then some (!isNon dx) else none) = some k := e
    split at e'
    · rename_i hn
      cases e'
      have z := hy.isNon
      rw [hn] at z
      exact op_notN pins s σ H x y v u Q I rx ry ⟨of_decide_eq_true z, by rw [hx.isNon]; exact q⟩
    · cases e'

omit hK hu in
theorem RepL.atI {ρ : List Addr} {H : Hp} {vs : List V} {ds : List D} {i : Int} {d : D} (r : RepL T ρ H vs ds) (h : L2.atI ds i = some d) : ∃ v, L2.atI vs i = some v ∧ Rep T ρ H v d := by
  unfold L2.atI at h ⊢
  rw [r.length]
  obtain ⟨j, h1, h2⟩ := Option.bind_eq_some_iff.mp h
  obtain ⟨v, h3, h4⟩ := r.get h2
  exact ⟨v, by rw [h1]; exact h3, h4⟩
theorem ix_all : IxR X (rB T ixSem) := by
  intro value slice pins s σ H x y v u Q I rx ry h hs
  obtain ⟨ρ, fr, c, dx, dy, d, st, hx, hy, e, q⟩ := h
  have same : ∀ v, Rep T ρ H v d → Q v H := fun v r => q ρ H v (Ext.refl ρ H) st r
  unfold ixSem at e
  split at e
  · split at e
    · split at e
      · rename_i hz
        obtain ⟨k, h1, rfl⟩ := Option.map_eq_some_iff.mp e
        cases hx; cases hy
        exact ix_str value slice pins s σ H _ _ v u Q I rx ry ⟨_, _, k, rfl, rfl, hz, h1, same _ (.str _)⟩ hs
      · cases e
    · cases e
  · split at e
    · rename_i kk _ h1 h2
      obtain ⟨a, vs, rfl, ha, r⟩ := hx.dicE
      cases keyOf_rep hy h1
      cases rx
      obtain ⟨_, i2⟩ := r.look (k := _) h2
      obtain ⟨w, hw, rw'⟩ := i2 _ e
      have g := DGet.k (k := kk) ha
      rw [hw] at g
      exact tail_any (dict_typeIs I g) PySem.F.slot_dict_getitem.lookup (d_getItem (by omega) I g ry fun w' s' I' r' => ⟨w, H, I', r', same w rw'⟩) hs
    · cases e
  · split at e
    · rename_i h1
      obtain ⟨a, vs, rfl, hq, r⟩ := hx.seq st h1
      cases hy
      obtain ⟨w, hw, rw'⟩ := r.atI e
      rw [← hK] at hq
      refine ix_seq value slice pins s σ H _ _ v u Q I rx ry ?_ hs
      rcases hq with hq | hq
      · exact .inl ⟨a, vs, _, w, rfl, rfl, hq, hw, same w rw'⟩
      · exact .inr (.inl ⟨a, vs, _, w, rfl, rfl, hq, hw, same w rw'⟩)
    · cases e
omit hK hu in
theorem RepL.cut {ρ : List Addr} {H : Hp} {vs : List V} {ds : List D} (r : RepL T ρ H vs ds) (lo hi : Option Int) : RepL T ρ H (cutV vs lo hi) (cutD ds lo hi) := by
  unfold cutV cutD
  rw [r.length]
  exact (r.drop _).take _
omit hK hu in
theorem cutV_map (ns : List Int) (lo hi : Option Int) : cutV (ns.map V.int) lo hi = (cutD ns lo hi).map V.int := by
  unfold cutV cutD
  rw [List.length_map, List.map_take, List.map_drop]
def rS (T : Tab) (f : Nat → List Cell → D → Option Int → Option Int → Option D) : V → Option Int → Option Int → Hp → VK → Prop := fun x lo hi H Q => ∃ ρ fr c dx d, StoreOk T ρ H (fr ++ c) ∧ Rep T ρ H x dx ∧ f fr.length c dx lo hi = some d ∧
  ∀ ρ' H' v, Ext ρ H ρ' H' → StoreOk T ρ' H' (fr ++ c) → Rep T ρ' H' v d → Q v H'
omit hu in
theorem sl_all : SlR X (rS T slSem) := by
  intro pins s σ H x v vl vu lo hi sl Q I rx hs pl pu h
  obtain ⟨ρ, fr, c, dx, d, st, hx, e, q⟩ := h
  have same : ∀ v, Rep T ρ H v d → Q v H := fun v r => q ρ H v (Ext.refl ρ H) st r
  unfold slSem at e
  split at e
  · split at e
    · rename_i hz
      cases e
      cases hx
      exact C8.sl_txt pins s σ H _ v vl vu lo hi sl Q I rx hs pl pu ⟨_, rfl, hz, same _ (.str _)⟩
    · cases e
  · rename_i xs
    cases e
    obtain ⟨a, vs, rfl, ha, r⟩ := hx.tupE
    have ha' := ha
    rw [← hK] at ha
    refine sl_tupF pins s σ H _ v vl vu lo hi sl Q I rx hs pl pu ⟨a, vs, rfl, ha, fun hw => ?_, ?_⟩
    · have e : cutD xs lo hi = xs := by
        rw [r.length] at hw
        unfold cutD
        rw [hw.1, hw.2]
        simp
      refine same _ ?_
      rw [e]
      exact hx
    · exact NewT.of st (r.cut lo hi) fun H' v e s r => q ρ H' v e s r
  · cases e
    obtain ⟨a, rfl, ha⟩ := hx.scrE
    rw [← hK] at ha
    refine sl_list pins s σ H _ v vl vu lo hi sl Q I rx hs pl pu ⟨a, _, rfl, ha, fun p hp => ?_⟩
    rw [cutV_map]
    exact q ρ _ _ (Ext.upd hp) (st.upd hp) (.lst upd_same (st.none_out hp) (RepL.ints _))
  · split at e
    · rename_i h1
      cases e
      obtain ⟨a, vs, rfl, ha, r⟩ := hx.deref st h1
      refine sl_list pins s σ H _ v vl vu lo hi sl Q I rx hs pl pu ⟨a, vs, rfl, SqL.of ha, fun p hp => ?_⟩
      exact q ρ _ _ (Ext.upd hp) (st.upd hp) (.lst upd_same (st.none_out hp) ((r.cut lo hi).mono (Ext.upd hp)))
    · cases e
end
end MP
end
section
set_option maxRecDepth 100000
set_option maxHeartbeats 1000000
namespace MP
open PySem PySem.Spec PyProof.Rows L2

section
variable {T : Tab} {X : Cx}
/-- what a data function of several wants -/
def rA (T : Tab) (g : List D → Nat → List Cell → Option D) : List V → Hp → VK → Prop := fun xs H Q => ∃ ρ fr c ds d, StoreOk T ρ H (fr ++ c) ∧ RepL T ρ H xs ds ∧ g ds fr.length c = some d ∧
  ∀ ρ' H' v, Ext ρ H ρ' H' → StoreOk T ρ' H' (fr ++ c) → Rep T ρ' H' v d → Q v H'
theorem RepL.one {ρ : List Addr} {H : Hp} {xs : List V} {d : D} (r : RepL T ρ H xs [d]) : ∃ x, xs = [x] ∧ Rep T ρ H x d := by
  cases r with
  | cons h r => cases r; exact ⟨_, rfl, h⟩
theorem RepL.two {ρ : List Addr} {H : Hp} {xs : List V} {d e : D} (r : RepL T ρ H xs [d, e]) : ∃ x y, xs = [x, y] ∧ Rep T ρ H x d ∧ Rep T ρ H y e := by
  cases r with
  | cons h r =>
    obtain ⟨y, rfl, h2⟩ := r.one
    exact ⟨_, _, rfl, h, h2⟩
theorem RepL.intsOf {ρ : List Addr} {H : Hp} : ∀ {vs : List V} {ds : List D} {ns : List Int}, RepL T ρ H vs ds → MP.intsOf ds = some ns → vs = ns.map V.int
  | _, [], _, r, e => by cases e; cases r; rfl
  | _, d :: ds, ns, r, e => by
    cases r with
    | cons h r =>
      cases d with
      | int i =>
        obtain ⟨ms, h1, rfl⟩ := Option.map_eq_some_iff.mp (show (MP.intsOf ds).map (i :: ·) = some ns from e)
        cases h
        rw [List.map_cons, ← RepL.intsOf r h1]
      | _ => cases e
theorem RepL.boolsOf {ρ : List Addr} {H : Hp} : ∀ {vs : List V} {ds : List D} {ns : List Bool}, RepL T ρ H vs ds → MP.boolsOf ds = some ns → vs = ns.map V.bl
  | _, [], _, r, e => by cases e; cases r; rfl
  | _, d :: ds, ns, r, e => by
    cases r with
    | cons h r =>
      cases d with
      | bl i =>
        obtain ⟨ms, h1, rfl⟩ := Option.map_eq_some_iff.mp (show (MP.boolsOf ds).map (i :: ·) = some ns from e)
        cases h
        rw [List.map_cons, ← RepL.boolsOf r h1]
      | _ => cases e
theorem RepL.strsOf {ρ : List Addr} {H : Hp} : ∀ {vs : List V} {ds : List D} {ns : List Str}, RepL T ρ H vs ds → MP.strsOf ds = some ns → vs = ns.map V.str
  | _, [], _, r, e => by cases e; cases r; rfl
  | _, d :: ds, ns, r, e => by
    cases r with
    | cons h r =>
      cases d with
      | str i =>
        obtain ⟨ms, h1, rfl⟩ := Option.map_eq_some_iff.mp (show (MP.strsOf ds).map (i :: ·) = some ns from e)
        cases h
        rw [List.map_cons, ← RepL.strsOf r h1]
      | _ => cases e
theorem RepK.length {ρ : List Addr} {H : Hp} : ∀ {vs : List (Key × V)} {ds : List (D × D)}, RepK T ρ H vs ds → vs.length = ds.length
  | _, _, .nil => rfl
  | _, _, .cons _ r => by simp [RepK.length r]
theorem RepK.keys {ρ : List Addr} {H : Hp} : ∀ {vs : List (Key × V)} {ds : List (D × D)}, RepK T ρ H vs ds → RepL T ρ H (vs.map fun kv => kV kv.1) (ds.map (·.1))
  | _, _, .nil => .nil
  | (k, v) :: _, _, .cons _ r => .cons (by cases k with
    | inl i => exact .int i
    | inr s => exact .str s) (RepK.keys r)

end
theorem seqL_of {T : Tab} {ρ : List Addr} {H : Hp} {fr c : List Cell} {v : V} {x : D} {ys : List D} (hv : Rep T ρ H v x) (st : StoreOk T ρ H (fr ++ c)) (h : seqOf fr.length c x = some ys) (hT : ∀ zs, x ≠ .tup zs) :
    ∃ a vs, v = .ref a ∧ SqL T.K H a vs ∧ RepL T ρ H vs ys := by
  cases x with
  | tup zs => exact absurd rfl (hT zs)
  | lst zs =>
    cases h
    cases hv with
    | lst h1 _ h3 => exact ⟨_, _, rfl, SqL.of h1, h3⟩
  | scr ns =>
    cases h
    obtain ⟨a, e, q⟩ := hv.scrE
    exact ⟨a, _, e, q, RepL.ints ns⟩
  | ref n =>
    have h' : (match cellAt fr.length c n with
      | some (.lst xs) => some xs
      | _ => none) = some ys := h
    cases q : cellAt fr.length c n with
    | none => rw [q] at h'; cases h'
    | some k =>
      rw [q] at h'
      cases k with
      | lst zs =>
        cases h'
        obtain ⟨a, e, _, z⟩ := hv.cell st q
        cases z with
        | lst h1 h2 => exact ⟨a, _, e, SqL.of h1, h2⟩
      | ins _ _ => cases h'
      | exn _ _ => cases h'
  | _ => cases h
section
variable {T : Tab} {X : Cx} (hK : X.K = T.K) (hc : X.calm = true)
include hK
theorem cl_len' : CallR X (.builtin "len") (rA T (bltSem .len)) := by
  intro pins s σ H xs us Q I r h
  obtain ⟨ρ, fr, c, ds, d, st, hx, e, q⟩ := h
  have same : ∀ v, Rep T ρ H v d → Q v H := fun v r => q ρ H v (Ext.refl ρ H) st r
  match ds, e with
  | [x], e =>
    obtain ⟨v, rfl, hv⟩ := hx.one
    obtain ⟨n, h1, rfl⟩ := Option.map_eq_some_iff.mp (show (lenSem fr.length c x).map (fun n : Nat => D.int (n : Int)) = some d from e)
    unfold lenSem at h1
    split at h1
    · split at h1
      · rename_i hz
        cases h1
        cases hv
        exact call_len_str pins s σ H _ us Q I r ⟨_, rfl, hz, same _ (.int _)⟩
      · cases h1
    · cases h1
      obtain ⟨a, vs, rfl, ha, rr⟩ := hv.dicE
      refine call_lenD pins s σ H _ us Q I r ⟨a, vs, rfl, ha, ?_⟩
      rw [rr.length]
      exact same _ (.int _)
    · obtain ⟨ys, h2, rfl⟩ := Option.map_eq_some_iff.mp h1
      obtain ⟨a, vs, rfl, hq, rr⟩ := hv.seq st h2
      rw [← hK] at hq
      refine call_len_seq pins s σ H _ us Q I r ⟨a, vs, rfl, hq, ?_⟩
      rw [rr.length]
      exact same _ (.int _)
theorem cl_tuple : CallR X (.type "tuple") (rA T (bltSem .tuple)) := by
  intro pins s σ H xs us Q I r h
  obtain ⟨ρ, fr, c, ds, d, st, hx, e, q⟩ := h
  have same : ∀ v, Rep T ρ H v d → Q v H := fun v r => q ρ H v (Ext.refl ρ H) st r
  match ds, e with
  | [x], e =>
    obtain ⟨v, rfl, hv⟩ := hx.one
    obtain ⟨ys, h2, rfl⟩ := Option.map_eq_some_iff.mp (show (seqOf fr.length c x).map D.tup = some d from e)
    -- a tuple is itself; anything else is a list
    by_cases hT : ∃ zs, x = .tup zs
    · obtain ⟨zs, rfl⟩ := hT
      cases h2
      obtain ⟨a, vs, rfl, hq, rr⟩ := hv.tupE
      rw [← hK] at hq
      exact call_tupleF pins s σ H _ us Q I r ⟨a, vs, rfl, .inr ⟨hq, same _ hv⟩⟩
    · have hl := seqL_of hv st h2 fun zs z => hT ⟨zs, z⟩
      rw [← hK] at hl
      obtain ⟨a, vs, rfl, hq, rr⟩ := hl
      exact call_tupleF pins s σ H _ us Q I r ⟨a, vs, rfl, .inl ⟨hq, NewT.of st rr fun H' v e s r => q ρ H' v e s r⟩⟩
include hc
theorem cl_list : CallR X (.type "list") (rA T (bltSem .list)) := by
  intro pins s σ H xs us Q I r h
  obtain ⟨ρ, fr, c, ds, d, st, hx, e, q⟩ := h
  match ds, e with
  | [x], e =>
    obtain ⟨v, rfl, hv⟩ := hx.one
    have e' : listSem fr.length c x = some d := e
    unfold listSem at e'
    split at e'
    · cases e'
      obtain ⟨a, vs, rfl, ha, rr⟩ := hv.dicE
      refine call_list_dK hc pins s σ H _ us Q I r ⟨a, vs, rfl, ha, fun p hp => ?_⟩
      exact q ρ _ _ (Ext.upd hp) (st.upd hp) (.lst upd_same (st.none_out hp) (rr.keys.mono (Ext.upd hp)))
    · obtain ⟨ys, h2, rfl⟩ := Option.map_eq_some_iff.mp e'
      obtain ⟨a, vs, rfl, hq, rr⟩ := hv.seq st h2
      rw [← hK] at hq
      refine call_list_of pins s σ H _ us Q I r ⟨a, vs, rfl, hq, fun p hp => ?_⟩
      exact q ρ _ _ (Ext.upd hp) (st.upd hp) (.lst upd_same (st.none_out hp) (rr.mono (Ext.upd hp)))
omit hK hc in
theorem cl_int : CallR X (.type "int") (rA T (bltSem .int)) := by
  intro pins s σ H xs us Q I r h
  obtain ⟨ρ, fr, c, ds, d, st, hx, e, q⟩ := h
  have same : ∀ v, Rep T ρ H v d → Q v H := fun v r => q ρ H v (Ext.refl ρ H) st r
  match ds, e with
  | [x], e =>
    obtain ⟨v, rfl, hv⟩ := hx.one
    have e' : intSem x = some d := e
    unfold intSem at e'
    split at e'
    · cases e'
      cases hv
      exact call_int1 pins s σ H _ us Q I r (.inl ⟨_, rfl, same _ (.int _)⟩)
    · cases e'
      cases hv
      exact call_int1 pins s σ H _ us Q I r (.inr ⟨_, rfl, same _ (.int _)⟩)
    · split at e'
      · rename_i hz
        obtain ⟨n, h1, rfl⟩ := Option.map_eq_some_iff.mp e'
        cases hv
        exact call_int_str pins s σ H _ us Q I r ⟨_, n, rfl, h1, hz, same _ (.int _)⟩
      · cases e'
    · cases e'
omit hK hc in
theorem cl_str : CallR X (.type "str") (rA T (bltSem .str)) := by
  intro pins s σ H xs us Q I r h
  obtain ⟨ρ, fr, c, ds, d, st, hx, e, q⟩ := h
  have same : ∀ v, Rep T ρ H v d → Q v H := fun v r => q ρ H v (Ext.refl ρ H) st r
  match ds, e with
  | [x], e =>
    obtain ⟨v, rfl, hv⟩ := hx.one
    have e' : strSem x = some d := e
    unfold strSem at e'
    split at e'
    · split at e'
      · rename_i hz
        cases e'
        cases hv
        exact call_str_int pins s σ H _ us Q I r ⟨_, rfl, hz, same _ (.str _)⟩
      · cases e'
    · cases e'
omit hK hc in
theorem cl_abs : CallR X (.builtin "abs") (rA T (bltSem .abs)) := by
  intro pins s σ H xs us Q I r h
  obtain ⟨ρ, fr, c, ds, d, st, hx, e, q⟩ := h
  have same : ∀ v, Rep T ρ H v d → Q v H := fun v r => q ρ H v (Ext.refl ρ H) st r
  match ds, e with
  | [x], e =>
    obtain ⟨v, rfl, hv⟩ := hx.one
    have e' : absSem x = some d := e
    unfold absSem at e'
    split at e'
    · cases e'
      cases hv
      exact call_abs pins s σ H _ us Q I r ⟨_, rfl, same _ (.int _)⟩
    · cases e'
omit hK in
theorem cl_max : CallR X (.builtin "max") (rA T (bltSem .max)) := by
  intro pins s σ H xs us Q I r h
  obtain ⟨ρ, fr, c, ds, d, st, hx, e, q⟩ := h
  have same : ∀ v, Rep T ρ H v d → Q v H := fun v r => q ρ H v (Ext.refl ρ H) st r
  match ds, e with
  | [x, y], e =>
    obtain ⟨v, w, rfl, hv, hw⟩ := hx.two
    have e' : maxSem x y = some d := e
    unfold maxSem at e'
    split at e'
    · cases e'
      cases hv; cases hw
      exact call_max2 hc pins s σ H _ us Q I r ⟨_, _, rfl, same _ (.int _)⟩
    · cases e'
omit hK in
theorem cl_min : CallR X (.builtin "min") (rA T (bltSem .min)) := by
  intro pins s σ H xs us Q I r h
  obtain ⟨ρ, fr, c, ds, d, st, hx, e, q⟩ := h
  have same : ∀ v, Rep T ρ H v d → Q v H := fun v r => q ρ H v (Ext.refl ρ H) st r
  match ds, e with
  | [x, y], e =>
    obtain ⟨v, w, rfl, hv, hw⟩ := hx.two
    have e' : minSem x y = some d := e
    unfold minSem at e'
    split at e'
    · cases e'
      cases hv; cases hw
      exact call_min2 hc pins s σ H _ us Q I r ⟨_, _, rfl, same _ (.int _)⟩
    · cases e'
end

section
variable {T : Tab} {X : Cx} {ρ : List Addr} {H : Hp} {pins : List (Addr × Obj)} {σ : L2.St} {s : Shared}
/-- keys and values, one by one -/
inductive RepQ (T : Tab) (ρ : List Addr) (H : Hp) : List (Key × V) → List (Key × D) → Prop
  | nil : RepQ T ρ H [] []
  | cons {k : Key} {v : V} {vs : List (Key × V)} {d : D} {ds : List (Key × D)} : Rep T ρ H v d → RepQ T ρ H vs ds → RepQ T ρ H ((k, v) :: vs) ((k, d) :: ds)
theorem RepQ.k : ∀ {vs : List (Key × V)} {ds : List (Key × D)}, RepQ T ρ H vs ds → RepK T ρ H vs (ds.map fun kv => (kD kv.1, kv.2))
  | _, _, .nil => .nil
  | _, _, .cons h r => .cons h r.k
theorem RepQ.any {k : Key} : ∀ {vs : List (Key × V)} {ds : List (Key × D)}, RepQ T ρ H vs ds → (vs.any fun kv => decide (kv.1 = k)) = ds.any fun kv => decide (kv.1 = k)
  | _, _, .nil => rfl
  | _, _, .cons h r => by rw [List.any_cons, List.any_cons, r.any]
theorem RepQ.repl {k : Key} {v : V} {d : D} (h : Rep T ρ H v d) : ∀ {vs : List (Key × V)} {ds : List (Key × D)}, RepQ T ρ H vs ds →
    RepQ T ρ H (vs.map fun kv => if kv.1 = k then (kv.1, v) else kv) (ds.map fun kv => if kv.1 = k then (kv.1, d) else kv)
  | _, _, .nil => .nil
  | _, _, .cons (k := j) h2 r => by
    rw [List.map_cons, List.map_cons]
    by_cases e : j = k
    · rw [if_pos e, if_pos e]; exact .cons h (r.repl h)
    · rw [if_neg e, if_neg e]; exact .cons h2 (r.repl h)
theorem RepQ.append : ∀ {vs ws : List (Key × V)} {ds es : List (Key × D)}, RepQ T ρ H vs ds → RepQ T ρ H ws es → RepQ T ρ H (vs ++ ws) (ds ++ es)
  | _, _, _, _, .nil, s => s
  | _, _, _, _, .cons h r, s => .cons h (r.append s)
theorem RepQ.put {k : Key} {v : V} {d : D} {vs : List (Key × V)} {ds : List (Key × D)} (h : Rep T ρ H v d) (r : RepQ T ρ H vs ds) : RepQ T ρ H (putK vs k v) (putD ds k d) := by
  unfold putK putD
  rw [r.any (k := k)]
  split
  · exact r.repl h
  · exact r.append (.cons h .nil)
theorem RepQ.merge : ∀ {vs : List (Key × V)} {ds : List (Key × D)}, RepQ T ρ H vs ds → ∀ {ws : List (Key × V)} {es : List (Key × D)}, RepQ T ρ H ws es → RepQ T ρ H (mergeK ws vs) (ds.foldl (fun acc p => putD acc p.1 p.2) es)
  | _, _, .nil, _, _, s => s
  | _, _, .cons h r, _, _, s => RepQ.merge r (s.put h)
/-- the pairs of a list of data -/
theorem RepL.prs : ∀ {vs : List V} {ds : List D} {ps : List (Key × D)}, RepL T ρ H vs ds → prsOf ds = some ps →
    ∃ as : List Addr, ∃ kvs : List (Key × V), vs = as.map V.ref ∧ RepQ T ρ H kvs ps ∧ Paired (fun p kv => SqT T.K H p [kV kv.1, kv.2]) as kvs
  | _, [], _, r, e => by cases e; cases r; exact ⟨[], [], rfl, .nil, .nil⟩
  | _, x :: ds, ps, r, e => by
    cases r with
    | cons h r =>
      cases x with
      | tup zs =>
        match zs, e with
        | [k, v], e =>
          have e' : (match keyOf k, prsOf ds with
            | some k, some ps => some ((k, v) :: ps)
            | _, _ => none) = some ps := e
          cases q1 : keyOf k with
          | none => rw [q1] at e'; cases e'
          | some kk =>
            rw [q1] at e'
            cases q2 : prsOf ds with
            | none => rw [q2] at e'; cases e'
            | some qs =>
              rw [q2] at e'
              cases e'
              obtain ⟨a, vs, rfl, hs, rl⟩ := h.tupE
              obtain ⟨x, y, rfl, hx, hy⟩ := rl.two
              cases keyOf_rep hx q1
              obtain ⟨as, kvs, rfl, rq, pp⟩ := RepL.prs r q2
              exact ⟨a :: as, (kk, y) :: kvs, rfl, .cons hy rq, .cons hs pp⟩
      | _ => cases e
/-- a tuple's object bears no dict -/
theorem Rep.plainT {x : V} {ds : List D} (I : Inv X pins σ H s) (hK : X.K = T.K) (r : Rep T ρ H x (.tup ds)) : ∃ a vs its, x = .ref a ∧ RepL T ρ H vs ds ∧ Vals vs its ∧ PySem.PlainSeq "tuple" s.heap a its.toArray ∧ vs.length ≤ sizeLine := by
  cases r with
  | @tup a o vs _ h hd n r =>
    obtain ⟨e, z, its, rv, o', e', hc, m, hdat⟩ := (show ObjOk X.prog X.w H s.heap a (.frz o (.tup vs)) from I.hok a _ h)
    rw [e] at e'; cases e'
    exact ⟨a, vs, its, rfl, r, rv, ⟨o, m, e, hc, hd, hdat⟩, z⟩
  | @tupK a vs _ h r =>
    obtain ⟨o, its, m, h1, h2, h3, h4, h5, h6⟩ := h
    rw [← hK] at h1
    refine ⟨a, vs, its.toList, rfl, r, h6, ⟨o, m, I.kIn a o h1, h2, h3, by simpa using h4⟩, ?_⟩
    have e := h6.length
    simp only [Array.length_toList] at e
    omega
end
section
variable {T : Tab} {X : Cx} (hK : X.K = T.K) (hc : X.calm = true)
include hK hc
theorem cl_dict : CallR X (.type "dict") (rA T (bltSem .dict)) := by
  intro pins s σ H xs us Q I r h
  obtain ⟨ρ, fr, c, ds, d, st, hx, e, q⟩ := h
  match ds, e with
  | [x], e =>
    obtain ⟨v, rfl, hv⟩ := hx.one
    obtain ⟨ps, e2, rfl⟩ := Option.map_eq_some_iff.mp (show ((seqOf fr.length c x).bind prsOf).map (fun ps => dictOf (mergeD ps)) = some d from e)
    obtain ⟨ys, h1, h2⟩ := Option.bind_eq_some_iff.mp e2
    have fin : ∀ (kvs : List (Key × V)), RepQ T ρ H kvs ps → ∀ p, H p = none → Q (.ref p) (L2.upd H p (.dK (mergeK [] kvs))) := fun kvs rq p hp =>
      q ρ _ _ (Ext.upd hp) (st.upd hp) (.dic upd_same (st.none_out hp) ((rq.merge .nil).k.mono (Ext.upd hp)))
    by_cases hT : ∃ zs, x = .tup zs
    · obtain ⟨zs, rfl⟩ := hT
      cases h1
      obtain ⟨a, vs, its, rfl, rl, rv, pl, hz⟩ := hv.plainT I hK
      obtain ⟨as, kvs, rfl, rq, pp⟩ := rl.prs h2
      rw [← hK] at pp
      have ei := refs_at rv
      subst ei
      rw [List.length_map] at hz
      obtain ⟨prs, rel, hl, hpr⟩ := pairs_of I pp
      obtain ⟨u, rfl, ru⟩ := vals1 r
      cases ru
      -- the items' addresses and pairs
      have key : ∀ j (q' : Key × Value), prs[j]? = some q' → ∃ u, IsTup s.heap (as.getD j 0) #[u, q'.2] ∧ keyIs q'.1 u = true ∧ (as.map Value.ref)[j]? = some (.ref (as.getD j 0)) := fun j q' e => by
        obtain ⟨b, u, e1, e2, e3⟩ := hpr j q' e
        have eb : as.getD j 0 = b := by rw [List.getD_eq_getElem?_getD, e1]; rfl
        exact ⟨u, by rw [eb]; exact e2, e3, by rw [eb, List.getElem?_map, e1]; rfl⟩
      obtain ⟨ks, hks⟩ : ∃ ks : List Value, ks.length = prs.length ∧ ∀ j (q' : Key × Value) k, prs[j]? = some q' → ks[j]? = some k → IsTup s.heap (as.getD j 0) #[k, q'.2] ∧ keyIs q'.1 k = true := by
        classical
        refine ⟨(List.range prs.length).map fun j => match prs[j]? with
          | some q' => if h : ∃ u, IsTup s.heap (as.getD j 0) #[u, q'.2] ∧ keyIs q'.1 u = true then Classical.choose h else .none
          | none => .none, by simp, fun j q' k e1 e2 => ?_⟩
        have hj : j < prs.length := (List.getElem?_eq_some_iff.mp e1).1
        rw [List.getElem?_map, List.getElem?_range hj] at e2
        obtain ⟨u, a1, a2, _⟩ := key j q' e1
        have ex : ∃ u, IsTup s.heap (as.getD j 0) #[u, q'.2] ∧ keyIs q'.1 u = true := ⟨u, a1, a2⟩
        have e3 : k = Classical.choose ex := by
          have e4 := Option.some.inj e2
          rw [← e4]
          dsimp only
          rw [e1]
          dsimp only
          rw [dif_pos ex]
        rw [e3]
        exact Classical.choose_spec ex
      have hps : ∀ j k v, (ks.zip (prs.map (·.2)))[j]? = some (k, v) → ∃ q' : Key × Value, prs[j]? = some q' ∧ q'.2 = v ∧ ks[j]? = some k := fun j k v e => by
        rw [List.getElem?_zip_eq_some] at e
        obtain ⟨e1, e2⟩ := e
        rw [List.getElem?_map] at e2
        obtain ⟨q', e3, e4⟩ := Option.map_eq_some_iff.mp e2
        exact ⟨q', e3, e4, e1⟩
      have lz : (ks.zip (prs.map (·.2))).length = prs.length := by simp [List.length_zip, hks.1]
      have ok : PySem.PlainSeq "tuple" s.heap a (as.map Value.ref).toArray ∧ PySem.PairItems s.heap (as.map Value.ref).toArray (fun j => as.getD j 0) (ks.zip (prs.map (·.2))) := by
        refine ⟨pl, by rw [lz, hl]; simp, fun j k v e => ?_⟩
        obtain ⟨q', e1, e2, e3⟩ := hps j k v e
        obtain ⟨_, _, _, e5⟩ := key j q' e1
        refine ⟨by simpa using e5, .inl ?_⟩
        have z := (hks.2 j q' k e1 e3).1
        rw [e2] at z
        exact z
      refine PySem.call_dict_pairs (knd := mixKind X.prog X.w) (kvs := prs) (PySem.PairArg.tuple (prog := X.prog) (w := X.w) a (as.map Value.ref).toArray (fun j => as.getD j 0) (ks.zip (prs.map (·.2)))) (I.ok.hd hc) ok ⟨lz.symm, fun i k v e => ?_⟩ (by rw [lz, hl]; exact hz) fun h' tk hd' k => ?_
      · obtain ⟨q', e1, e2, e3⟩ := hps i k v e
        refine ⟨q'.1, by rw [e1, ← e2], ?_⟩
        exact (hks.2 i q' k e1 e3).2
      · have hm : (s.heap.objs.size == sysModules) = false := beq_eq_false_iff_ne.mpr (Nat.ne_of_gt I.big)
        have hlen : (mergeK [] kvs).length ≤ sizeLine := by
          refine Nat.le_trans (length_mergeK kvs []) ?_
          rw [List.length_nil, Nat.zero_add, rel.length, hl]
          exact hz
        refine ⟨.ref s.heap.objs.size, L2.upd H s.heap.objs.size (.dK (mergeK [] kvs)), I.laid (t' := tk) (fun b o e => k b o (fun z => nomatch z) e) (Nat.le_refl _) (show ObjOk X.prog X.w _ _ _ (.dK (mergeK [] kvs)) from ⟨hlen, hm, merged [] prs, KV.merge rel .nil, hd'⟩), rfl, fin kvs rq _ (I.hok.fresh (Nat.le_refl _))⟩
    · obtain ⟨a, vs, rfl, hq, rr⟩ := seqL_of hv st h1 fun zs z => hT ⟨zs, z⟩
      obtain ⟨as, kvs, rfl, rq, pp⟩ := rr.prs h2
      rw [← hK] at hq pp
      exact call_dictP hc pins s σ H _ us Q I r ⟨a, as, kvs, rfl, hq, pp, fin kvs rq⟩
omit hK hc in
theorem lstOf_of {ρ : List Addr} {H : Hp} {fr c : List Cell} {v : V} {x : D} {ys : List D} (hv : Rep T ρ H v x) (st : StoreOk T ρ H (fr ++ c)) (h : lstOf fr.length c x = some ys) :
    ∃ a vs, v = .ref a ∧ SqL T.K H a vs ∧ RepL T ρ H vs ys := by
  unfold lstOf at h
  split at h
  · cases h
  · rename_i hne
    exact seqL_of hv st h fun zs z => hne zs z
/-- the lists that sum, all, any walk -/
theorem cl_sum : CallR X (.builtin "sum") (rA T (bltSem .sum)) := by
  intro pins s σ H xs us Q I r h
  obtain ⟨ρ, fr, c, ds, d, st, hx, e, q⟩ := h
  have same : ∀ v, Rep T ρ H v d → Q v H := fun v r => q ρ H v (Ext.refl ρ H) st r
  · match ds, e with
    | [x], e =>
      obtain ⟨v, rfl, hv⟩ := hx.one
      obtain ⟨ns, e2, rfl⟩ := Option.map_eq_some_iff.mp (show ((lstOf fr.length c x).bind intsOf).map (fun ns => D.int ns.sum) = some d from e)
      obtain ⟨ys, h1, h2⟩ := Option.bind_eq_some_iff.mp e2
      obtain ⟨a, vs, rfl, hq, rr⟩ := lstOf_of hv st h1
      cases rr.intsOf h2
      rw [← hK] at hq
      exact cr_sum hc pins s σ H _ us Q I r ⟨a, ns, rfl, hq, same _ (.int _)⟩
theorem cl_all : CallR X (.builtin "all") (rA T (bltSem .all)) := by
  intro pins s σ H xs us Q I r h
  obtain ⟨ρ, fr, c, ds, d, st, hx, e, q⟩ := h
  have same : ∀ v, Rep T ρ H v d → Q v H := fun v r => q ρ H v (Ext.refl ρ H) st r
  · match ds, e with
    | [x], e =>
      obtain ⟨v, rfl, hv⟩ := hx.one
      obtain ⟨ns, e2, rfl⟩ := Option.map_eq_some_iff.mp (show ((lstOf fr.length c x).bind boolsOf).map (fun ns => D.bl (ns.all id)) = some d from e)
      obtain ⟨ys, h1, h2⟩ := Option.bind_eq_some_iff.mp e2
      obtain ⟨a, vs, rfl, hq, rr⟩ := lstOf_of hv st h1
      cases rr.boolsOf h2
      rw [← hK] at hq
      exact cr_all hc pins s σ H _ us Q I r ⟨a, ns, rfl, hq, same _ (.bl _)⟩
theorem cl_any : CallR X (.builtin "any") (rA T (bltSem .any)) := by
  intro pins s σ H xs us Q I r h
  obtain ⟨ρ, fr, c, ds, d, st, hx, e, q⟩ := h
  have same : ∀ v, Rep T ρ H v d → Q v H := fun v r => q ρ H v (Ext.refl ρ H) st r
  · match ds, e with
    | [x], e =>
      obtain ⟨v, rfl, hv⟩ := hx.one
      obtain ⟨ns, e2, rfl⟩ := Option.map_eq_some_iff.mp (show ((lstOf fr.length c x).bind boolsOf).map (fun ns => D.bl (ns.any id)) = some d from e)
      obtain ⟨ys, h1, h2⟩ := Option.bind_eq_some_iff.mp e2
      obtain ⟨a, vs, rfl, hq, rr⟩ := lstOf_of hv st h1
      cases rr.boolsOf h2
      rw [← hK] at hq
      exact cr_any hc pins s σ H _ us Q I r ⟨a, ns, rfl, hq, same _ (.bl _)⟩
end
end MP
end
section
set_option maxRecDepth 100000
set_option maxHeartbeats 1000000
namespace MP
open PySem PySem.Spec PyProof.Rows L2
section
variable {T : Tab} {X : Cx}
theorem cl_repr (hK : X.K = T.K) (hg : X.A.guards = some []) (hu : X.A.units + 120 < cLine) : CallR X (.builtin "repr") (rA T (bltSem .repr)) := by
  intro pins s σ H xs us Q I r h
  obtain ⟨ρ, fr, c, ds, d, st, rl, e, q⟩ := h
  match ds, e with
  | [x], e =>
    have e1 : reprSem fr.length c x = some d := e
    unfold reprSem at e1
    cases hp : toP (deref fr.length c x) with
    | none => rw [hp] at e1; cases e1
    | some p =>
      rw [hp] at e1
      have e2 : (if p.showable && (!p.hasDict && (decide (p.shown.length ≤ sizeLine) && decide (p.depth ≤ 100))) then some (D.str p.shown) else none) = some d := e1
      by_cases hz : (p.showable && (!p.hasDict && (decide (p.shown.length ≤ sizeLine) && decide (p.depth ≤ 100)))) = true
      · rw [if_pos hz] at e2
        cases e2
        simp only [Bool.and_eq_true, Bool.not_eq_true', decide_eq_true_eq] at hz
        obtain ⟨z1, z2, z3, z4⟩ := hz
        obtain ⟨v, rfl, r1⟩ := rl.one
        cases r with
        | cons ru rr =>
          cases rr
          rename_i u
          have dp : Dp X.K H v p := hK ▸ Rep.dpD r1 st hp
          obtain ⟨as, rd⟩ := Dp.reads I p v u dp ru
          have fin : ∀ (tk tk2 : Nat), EP X pins σ Q (.str p.shown tk) { s with toks := tk2 } := fun tk tk2 => ⟨.str p.shown, H, I.tok tk2, ⟨_, rfl⟩, q ρ H _ (Ext.refl _ _) st (.str _)⟩
          cases rd with
          | none => exact PySem.P.repr_of_none (fin _ _)
          | bool b => exact PySem.P.repr_of_bool (fin _ _)
          | int i t =>
            unfold PyData.showable at z1
            exact PySem.P.repr_of_int (by simpa using z1) (fin _ _)
          | str y t => exact PySem.P.repr_of_str (fin _ _) z3
          | list h1 h2 h3 h4 =>
            refine repr_of_reads' (h₀ := s.heap) (.list h1 h2 h3 h4) z1 (PyData.noDict_hsm z2) hg (by omega) (fun _ _ z => z) (fun h' u' tk hk => ?_) z3
            exact ⟨.str _, H, I.kept hk, ⟨_, rfl⟩, q ρ H _ (Ext.refl _ _) st (.str _)⟩
          | tuple h1 h2 h3 h4 =>
            refine repr_of_reads' (h₀ := s.heap) (.tuple h1 h2 h3 h4) z1 (PyData.noDict_hsm z2) hg (by omega) (fun _ _ z => z) (fun h' u' tk hk => ?_) z3
            exact ⟨.str _, H, I.kept hk, ⟨_, rfl⟩, q ρ H _ (Ext.refl _ _) st (.str _)⟩
          | dict _ _ _ _ _ => cases z2
      · rw [if_neg hz] at e2; cases e2
  | [], e => cases e
  | _ :: _ :: _, e => cases e
end
end MP
end
section
set_option maxRecDepth 100000
set_option maxHeartbeats 1000000
namespace MP
open PySem PySem.Spec PyProof.Rows L2

/-- the wish of exceptions, at slots -/
abbrev WS (W : WX) (σ : L2.St) : Value → Option Addr → Hp → Prop := fun cl d H => W cl d σ H
def RQ (T : Tab) (Q : VK) : List Addr → Hp → D → Prop := fun ρ H d => ∀ v, Rep T ρ H v d → Q v H
def RQs (T : Tab) (Q : List V → Hp → Prop) : List Addr → Hp → List D → Prop := fun ρ H ds => ∀ vs, RepL T ρ H vs ds → Q vs H
abbrev Evl (α : Type) := Env → Nat → List Cell → Res α
def tE (T : Tab) (W : WX) (f : Evl D) : TE := fun σ H Q => ∃ ρ fr c γ, StoreOk T ρ H (fr ++ c) ∧ EnvOk T ρ H σ γ ∧ Post T fr (RQ T Q) (WS W σ) ρ H (f γ fr.length c)
def tA (T : Tab) (W : WX) (f : Evl (List D)) : TA := fun σ H Q => ∃ ρ fr c γ, StoreOk T ρ H (fr ++ c) ∧ EnvOk T ρ H σ γ ∧ Post T fr (RQs T Q) (WS W σ) ρ H (f γ fr.length c)
def tT (T : Tab) (W : WX) (f : Evl Bool) : TT := fun σ H Q => ∃ ρ fr c γ, StoreOk T ρ H (fr ++ c) ∧ EnvOk T ρ H σ γ ∧ Post T fr (fun _ H k => Q k H) (WS W σ) ρ H (f γ fr.length c)
/-- behind a value: the store, the slots, the value's data, what is still wanted -/
structure Got (T : Tab) (W : WX) {α : Type} (σ : L2.St) (fr : List Cell) (γ : Env) (R : List Addr → Hp → α → Prop) (ρ : List Addr) (H : Hp) (c : List Cell) (r : Res α) : Prop where
  st : StoreOk T ρ H (fr ++ c)
  en : EnvOk T ρ H σ γ
  p : Post T fr R (WS W σ) ρ H r
section
variable {T : Tab} {W : WX} {σ : L2.St} {fr c : List Cell} {γ : Env} {ρ : List Addr} {H : Hp} {α : Type} {R : List Addr → Hp → α → Prop} {X : Cx}
theorem tE_step {f : Evl D} {k : D → List Cell → Res α} (g : Got T W σ fr γ R ρ H c ((f γ fr.length c).bind k)) :
    tE T W f σ H fun x H1 => ∃ ρ1 c1 d, Ext ρ H ρ1 H1 ∧ Rep T ρ1 H1 x d ∧ Got T W σ fr γ R ρ1 H1 c1 (k d c1) :=
  ⟨ρ, fr, c, γ, g.st, g.en, g.p.bind.imp fun ρ1 H1 d _ ⟨c1, e, s, _, q⟩ v r => ⟨ρ1, c1, d, e, r, s, g.en.mono e, q⟩⟩
theorem tA_step {f : Evl (List D)} {k : List D → List Cell → Res α} (g : Got T W σ fr γ R ρ H c ((f γ fr.length c).bind k)) :
    tA T W f σ H fun xs H1 => ∃ ρ1 c1 ds, Ext ρ H ρ1 H1 ∧ RepL T ρ1 H1 xs ds ∧ Got T W σ fr γ R ρ1 H1 c1 (k ds c1) :=
  ⟨ρ, fr, c, γ, g.st, g.en, g.p.bind.imp fun ρ1 H1 d _ ⟨c1, e, s, _, q⟩ v r => ⟨ρ1, c1, d, e, r, s, g.en.mono e, q⟩⟩
theorem tT_step {f : Evl Bool} {k : Bool → List Cell → Res α} (g : Got T W σ fr γ R ρ H c ((f γ fr.length c).bind k)) :
    tT T W f σ H fun b H1 => ∃ ρ1 c1, Ext ρ H ρ1 H1 ∧ Got T W σ fr γ R ρ1 H1 c1 (k b c1) :=
  ⟨ρ, fr, c, γ, g.st, g.en, g.p.bind.imp fun ρ1 H1 d _ ⟨c1, e, s, _, q⟩ => ⟨ρ1, c1, e, s, g.en.mono e, q⟩⟩
theorem tE_mono {f : Evl D} {Q Q' : VK} (h : tE T W f σ H Q) (k : ∀ v H, Q v H → Q' v H) : tE T W f σ H Q' := by
  obtain ⟨ρ, fr, c, γ, st, en, p⟩ := h
  exact ⟨ρ, fr, c, γ, st, en, p.imp fun _ _ _ _ q v r => k _ _ (q v r)⟩
theorem tA_mono {f : Evl (List D)} {Q Q' : List V → Hp → Prop} (h : tA T W f σ H Q) (k : ∀ v H, Q v H → Q' v H) : tA T W f σ H Q' := by
  obtain ⟨ρ, fr, c, γ, st, en, p⟩ := h
  exact ⟨ρ, fr, c, γ, st, en, p.imp fun _ _ _ _ q v r => k _ _ (q v r)⟩
theorem tT_mono {f : Evl Bool} {Q Q' : Bool → Hp → Prop} (h : tT T W f σ H Q) (k : ∀ v H, Q v H → Q' v H) : tT T W f σ H Q' := by
  obtain ⟨ρ, fr, c, γ, st, en, p⟩ := h
  exact ⟨ρ, fr, c, γ, st, en, p.imp fun _ _ _ _ q => k _ _ q⟩
theorem _root_.L2.PE.mono {e : Expr} {t t' : TE} (h : PE X e t) (k : ∀ σ H Q, t' σ H Q → t σ H Q) : PE X e t' := ⟨fun pins s σ H Q I q => h.run pins s σ H Q I (k σ H Q q)⟩
theorem _root_.L2.PA.mono {es : List Expr} {t t' : TA} (h : PA X es t) (k : ∀ σ H Q, t' σ H Q → t σ H Q) : PA X es t' := ⟨fun pos pins s σ H Q I q => h.run pos pins s σ H Q I (k σ H Q q)⟩
theorem _root_.L2.PT.mono {e : Expr} {t t' : TT} (h : PT X e t) (k : ∀ σ H Q, t' σ H Q → t σ H Q) : PT X e t' := ⟨fun pins s σ H Q I q => h.run pins s σ H Q I (k σ H Q q)⟩
theorem _root_.L2.PW.mono {e : Expr} {t t' : TT} (h : PW X e t) (k : ∀ σ H Q, t' σ H Q → t σ H Q) : PW X e t' := ⟨fun wh pins s σ H Q I q => h.run wh pins s σ H Q I (k σ H Q q)⟩
/-- a known answer -/
theorem Got.ok {d : D} {c' : List Cell} {Q : VK} (g : Got T W σ fr γ (RQ T Q) ρ H c (.ok d c')) {ρ' : List Addr} {H' : Hp} {v : V} (e : Ext ρ H ρ' H') (s : StoreOk T ρ' H' (fr ++ c')) (r : Rep T ρ' H' v d) : Q v H' := g.p ρ' H' e s v r
theorem Got.same {d : D} {Q : VK} (g : Got T W σ fr γ (RQ T Q) ρ H c (.ok d c)) {v : V} (r : Rep T ρ H v d) : Q v H := g.p ρ H (Ext.refl ρ H) g.st v r
theorem Got.opt {o : Option α} (g : Got T W σ fr γ R ρ H c (ofOpt o c)) : ∃ d, o = some d ∧ Got T W σ fr γ R ρ H c (.ok d c) := by
  cases o with
  | none => exact g.p.elim
  | some d => exact ⟨d, rfl, g⟩
theorem Got.bad (g : Got T W σ fr γ R ρ H c .bad) : False := g.p
end

section
variable {T : Tab} {P : Prog} {call : Call} {W : WX} {X : Cx} {a b e : Expr} {x y z : E} {pos : Pos}
variable (hK : X.K = T.K) (hu : X.A.units + 80 < cLine)
theorem SE_var {i : Nat} {n : Str} (hN : X.N[i]? = some n) (hv : Vis X.env.scope n) (hd : (n == ("__debug__" : Str)) = false) (hcd : (n == ("__classdict__" : Str)) = false) : PE X (.Name n pos) (tE T W (ev P call (.var i))) := by
  refine (pe_var hN hv hd hcd).mono fun σ H Q h => ?_
  obtain ⟨ρ, fr, c, γ, st, en, p⟩ := h
  unfold ev at p
  cases q : γ[i]? with
  | none => rw [q] at p; exact p.elim
  | some o =>
    rw [q] at p
    cases o with
    | none => exact p.elim
    | some d =>
      obtain ⟨v, h1, h2⟩ := en.at_ i d q
      have p1 : Post T fr (RQ T Q) (WS W σ) ρ H (if isLam d then .bad else .ok d c) := p
      cases hz : isLam d with
      | true => rw [hz] at p1; exact p1.elim
      | false =>
        rw [hz] at p1
        exact ⟨v, h1, p1 ρ H (Ext.refl ρ H) st v (h2.data hz)⟩
theorem SE_glob {n : Str} {d : K} (hg : Gl X n) (h : ∃ u v, X.mg n = some u ∧ RelV v u ∧ ∀ ρ H, Rep T ρ H v d.toD) (hd : (n == ("__debug__" : Str)) = false) : PE X (.Name n pos) (tE T W (ev P call (.con d))) := by
  obtain ⟨u, v, hm, r, hr⟩ := h
  refine (pe_glob hg hm r hd).mono fun σ H Q h => ?_
  obtain ⟨ρ, fr, c, γ, st, en, p⟩ := h
  exact p ρ H (Ext.refl ρ H) st v (hr ρ H)
theorem SE_int {i : Int} {j : Nat} : PE X (.Constant (.int i) j pos) (tE T W (ev P call (.con (.int i)))) :=
  pe_int.mono fun σ H Q ⟨ρ, fr, c, γ, st, en, p⟩ => p ρ H (Ext.refl ρ H) st _ (.int i)
theorem SE_bl {i : Bool} {j : Nat} : PE X (.Constant (.bool i) j pos) (tE T W (ev P call (.con (.bl i)))) :=
  pe_bl.mono fun σ H Q ⟨ρ, fr, c, γ, st, en, p⟩ => p ρ H (Ext.refl ρ H) st _ (.bl i)
theorem SE_str {i : Str} {j : Nat} : PE X (.Constant (.str i) j pos) (tE T W (ev P call (.con (.str i)))) :=
  pe_str.mono fun σ H Q ⟨ρ, fr, c, γ, st, en, p⟩ => p ρ H (Ext.refl ρ H) st _ (.str i)
theorem SE_non {j : Nat} : PE X (.Constant .none j pos) (tE T W (ev P call (.con .non))) :=
  pe_non.mono fun σ H Q ⟨ρ, fr, c, γ, st, en, p⟩ => p ρ H (Ext.refl ρ H) st _ .non

theorem starEach_cons (e : Expr) (es : List Expr) (env : PySem.Env) (h : ∀ x p, e ≠ .Starred x p) : starEach (e :: es) env = (false, eval e env) :: starEach es env := by
  cases e <;> first | rfl | exact absurd rfl (h _ _)
theorem SA_nil : PA X [] (tA T W (evs P call .nil)) :=
  pa_nil.mono fun σ H Q ⟨ρ, fr, c, γ, st, en, p⟩ => p ρ H (Ext.refl ρ H) st _ .nil
theorem SA_cons {es : List Expr} {ys : Es} (ha : PE X e (tE T W (ev P call x))) (hs : PA X es (tA T W (evs P call ys))) (hn : ∀ x p, e ≠ .Starred x p) : PA X (e :: es) (tA T W (evs P call (.cons x ys))) := by
  refine (pa_cons ha hs (starEach_cons e es _ hn)).mono fun σ H Q h => ?_
  obtain ⟨ρ, fr, c, γ, st, en, p⟩ := h
  unfold evs at p
  refine tE_mono (tE_step ⟨st, en, p⟩) fun v H1 ⟨ρ1, c1, d, e1, r1, g1⟩ => ?_
  refine tA_mono (tA_step g1) fun vs H2 ⟨ρ2, c2, ds, e2, r2, g2⟩ => ?_
  exact g2.p ρ2 H2 (Ext.refl _ _) g2.st _ (.cons (r1.mono e2) r2)
theorem SE_tup {es : List Expr} {ys : Es} {k : Nat} (hs : PA X es (tA T W (evs P call ys))) : PE X (.Tuple es k pos) (tE T W (ev P call (.tup ys))) := by
  refine (pe_tupF hs).mono fun σ H Q h => ?_
  obtain ⟨ρ, fr, c, γ, st, en, p⟩ := h
  unfold ev at p
  refine tA_mono (tA_step ⟨st, en, p⟩) fun vs H1 ⟨ρ1, c1, ds, e1, r1, g1⟩ => ?_
  by_cases hz : ds.length ≤ sizeLine
  · rw [if_pos hz] at g1
    exact ⟨by rw [r1.length]; exact hz, NewT.of g1.st r1 fun H' v e s r => g1.ok e s r⟩
  · rw [if_neg hz] at g1
    exact g1.bad.elim
theorem newLst_got {σ : L2.St} {fr c : List Cell} {γ : Env} {ρ : List Addr} {H : Hp} {m : Bool} {ds : List D} {vs : List V} {Q : VK} (r : RepL T ρ H vs ds) (g : Got T W σ fr γ (RQ T Q) ρ H c (newLst m ds fr.length c)) :
    vs.length ≤ sizeLine ∧ ∀ p, H p = none → Q (.ref p) (L2.upd H p (.lst vs)) := by
  unfold newLst at g
  by_cases hz : ds.length ≤ sizeLine
  · rw [if_pos hz] at g
    refine ⟨by rw [r.length]; exact hz, fun p hp => ?_⟩
    cases m with
    | false => exact g.ok (Ext.upd hp) (g.st.upd hp) (.lst upd_same (g.st.none_out hp) (r.mono (Ext.upd hp)))
    | true =>
      have e := Ext.push (ρ := ρ) (o := HO.lst vs) hp
      have st' := g.st.push (c := .lst ds) hp (.lst (T := T) upd_same (r.mono e))
      rw [List.append_assoc] at st'
      refine g.ok e st' (.ref ?_)
      have hl : ρ.length = fr.length + c.length := by rw [g.st.len, List.length_append]
      rw [← hl, List.getElem?_append_right (Nat.le_refl _), Nat.sub_self]
      rfl
  · rw [if_neg hz] at g
    exact g.bad.elim
theorem SE_lst {es : List Expr} {ys : Es} {m : Bool} (hs : PA X es (tA T W (evs P call ys))) : PE X (.List es pos) (tE T W (ev P call (.lst ys m))) := by
  refine (pe_lst hs).mono fun σ H Q h => ?_
  obtain ⟨ρ, fr, c, γ, st, en, p⟩ := h
  unfold ev at p
  refine tA_mono (tA_step ⟨st, en, p⟩) fun vs H1 ⟨ρ1, c1, ds, e1, r1, g1⟩ => ?_
  exact newLst_got r1 g1

include hK in
theorem SE_bin {op : Operator} (ha : PE X a (tE T W (ev P call x))) (hb : PE X b (tE T W (ev P call y))) : PE X (.BinOp a op b pos) (tE T W (ev P call (.bin op x y))) := by
  refine (pe_op (op_bin hK op) ha hb).mono fun σ H Q h => ?_
  obtain ⟨ρ, fr, c, γ, st, en, p⟩ := h
  unfold ev at p
  refine tE_mono (tE_step ⟨st, en, p⟩) fun v H1 ⟨ρ1, c1, d1, e1, r1, g1⟩ => ?_
  refine tE_mono (tE_step g1) fun w H2 ⟨ρ2, c2, d2, e2, r2, g2⟩ => ?_
  obtain ⟨d, hd, g3⟩ := g2.opt
  exact ⟨ρ2, fr, c2, d1, d2, d, g2.st, r1.mono e2, r2, hd, fun ρ' H' v' e s r => g3.ok e s r⟩
theorem SE_neg (ha : PE X a (tE T W (ev P call x))) : PE X (.UnaryOp .USub a pos) (tE T W (ev P call (.neg x))) := by
  refine (pe_un un_neg ha).mono fun σ H Q h => ?_
  obtain ⟨ρ, fr, c, γ, st, en, p⟩ := h
  unfold ev at p
  refine tE_mono (tE_step ⟨st, en, p⟩) fun v H1 ⟨ρ1, c1, d1, e1, r1, g1⟩ => ?_
  cases d1 with
  | int i => cases r1; exact ⟨i, rfl, g1.same (.int _)⟩
  | _ => exact g1.bad.elim
theorem SE_nt (ha : PE X a (tE T W (ev P call x))) : PE X (.UnaryOp .Not a pos) (tE T W (ev P call (.nt x))) := by
  refine (pe_not ha).mono fun σ H Q h => ?_
  obtain ⟨ρ, fr, c, γ, st, en, p⟩ := h
  unfold ev at p
  refine tE_mono (tE_step ⟨st, en, p⟩) fun v H1 ⟨ρ1, c1, d1, e1, r1, g1⟩ => ?_
  cases d1 with
  | bl i => cases r1; exact ⟨i, rfl, g1.same (.bl _)⟩
  | _ => exact g1.bad.elim
def NoW : Value → Option Addr → Hp → Prop := fun _ _ _ => False
theorem Post.noW {T : Tab} {fr : List Cell} {α : Type} {R : List Addr → Hp → α → Prop} {W : Value → Option Addr → Hp → Prop} {ρ : List Addr} {H : Hp} {r : Res α} (h : Post T fr R W ρ H (noExc r)) : Post T fr R NoW ρ H (noExc r) := by
  cases r with
  | ok a c => exact h
  | exc x fs c => exact h
  | bad => exact h
/-- a comparison of data, or by an own method -/
def rCX (T : Tab) (P : Prog) (call : Call) (op : CmpOp) : V → V → Hp → VK → Prop := fun x y H Q => ∃ ρ fr c dx dy, StoreOk T ρ H (fr ++ c) ∧ Rep T ρ H x dx ∧ Rep T ρ H y dy ∧ Post T fr (RQ T Q) NoW ρ H (noExc (cmpX P call op dx dy fr.length c))
variable (hO : ∀ op, OpR X (compareOp op) (rCX T P call op))
include hO in
theorem SE_cmp {op : CmpOp} (ha : PE X a (tE T W (ev P call x))) (hb : PE X b (tE T W (ev P call y))) (hm : behindInMarks op b = false) : PE X (.Compare a [op] [b] pos) (tE T W (ev P call (.cmp op x y))) := by
  refine (pe_cmpR (hO op) ha hb hm).mono fun σ H Q h => ?_
  obtain ⟨ρ, fr, c, γ, st, en, p⟩ := h
  unfold ev at p
  refine tE_mono (tE_step ⟨st, en, p⟩) fun v H1 ⟨ρ1, c1, d1, e1, r1, g1⟩ => ?_
  refine tE_mono (tE_step g1) fun w H2 ⟨ρ2, c2, d2, e2, r2, g2⟩ => ?_
  exact ⟨ρ2, fr, c2, d1, d2, g2.st, r1.mono e2, r2, g2.p.noW⟩
include hK hu in
theorem SE_idx (ha : PE X a (tE T W (ev P call x))) (hb : PE X b (tE T W (ev P call y))) (hs : PlainIx b) : PE X (.Subscript a b pos) (tE T W (ev P call (.idx x y))) := by
  refine (pe_ix (ix_all hK hu) ha hb hs).mono fun σ H Q h => ?_
  obtain ⟨ρ, fr, c, γ, st, en, p⟩ := h
  unfold ev at p
  refine tE_mono (tE_step ⟨st, en, p⟩) fun v H1 ⟨ρ1, c1, d1, e1, r1, g1⟩ => ?_
  refine tE_mono (tE_step g1) fun w H2 ⟨ρ2, c2, d2, e2, r2, g2⟩ => ?_
  obtain ⟨d, hd, g3⟩ := g2.opt
  exact ⟨ρ2, fr, c2, d1, d2, d, g2.st, r1.mono e2, r2, hd, fun ρ' H' v' e s r => g3.ok e s r⟩
def tP (T : Tab) (W : WX) (f : Evl (Option Int)) : TO := fun σ H Q => ∃ ρ fr c γ, StoreOk T ρ H (fr ++ c) ∧ EnvOk T ρ H σ γ ∧ Post T fr (fun _ H k => Q k H) (WS W σ) ρ H (f γ fr.length c)
theorem tP_step {α : Type} {R : List Addr → Hp → α → Prop} {σ : L2.St} {fr c : List Cell} {γ : Env} {ρ : List Addr} {H : Hp} {f : Evl (Option Int)} {k : Option Int → List Cell → Res α} (g : Got T W σ fr γ R ρ H c ((f γ fr.length c).bind k)) :
    tP T W f σ H fun b H1 => ∃ ρ1 c1, Ext ρ H ρ1 H1 ∧ Got T W σ fr γ R ρ1 H1 c1 (k b c1) :=
  ⟨ρ, fr, c, γ, g.st, g.en, g.p.bind.imp fun ρ1 H1 d _ ⟨c1, e, s, _, q⟩ => ⟨ρ1, c1, e, s, g.en.mono e, q⟩⟩
theorem tP_mono {σ : L2.St} {H : Hp} {f : Evl (Option Int)} {Q Q' : Option Int → Hp → Prop} (h : tP T W f σ H Q) (k : ∀ v H, Q v H → Q' v H) : tP T W f σ H Q' := by
  obtain ⟨ρ, fr, c, γ, st, en, p⟩ := h
  exact ⟨ρ, fr, c, γ, st, en, p.imp fun _ _ _ _ q => k _ _ q⟩
theorem _root_.L2.PO.mono {e : Option Expr} {t t' : TO} (h : PO X e t) (k : ∀ σ H Q, t' σ H Q → t σ H Q) : PO X e t' := ⟨fun pins s σ H Q I q => h.run pins s σ H Q I (k σ H Q q)⟩
theorem SP_none : PO X none (tP T W (evP P call .none)) :=
  po_none.mono fun σ H Q ⟨ρ, fr, c, γ, st, en, p⟩ => p ρ H (Ext.refl ρ H) st
theorem SP_some (ha : PE X a (tE T W (ev P call x))) : PO X (some a) (tP T W (evP P call (.some x))) := by
  refine (po_some ha).mono fun σ H Q h => ?_
  obtain ⟨ρ, fr, c, γ, st, en, p⟩ := h
  unfold evP at p
  refine tE_mono (tE_step ⟨st, en, p⟩) fun v H1 ⟨ρ1, c1, d1, e1, r1, g1⟩ => ?_
  obtain ⟨o, ho, g2⟩ := g1.opt
  cases d1 with
  | int i =>
    cases r1
    cases ho
    exact ⟨i, rfl, g2.p ρ1 H1 (Ext.refl _ _) g2.st⟩
  | _ => cases ho
include hK in
theorem SE_slc {lo hi : Option Expr} {l h : Eo} {p2 : Pos} (ha : PE X a (tE T W (ev P call x))) (hl : PO X lo (tP T W (evP P call l))) (hh : PO X hi (tP T W (evP P call h))) : PE X (.Subscript a (.Slice lo hi none p2) pos) (tE T W (ev P call (.slc x l h))) := by
  refine (pe_slice (sl_all hK) ha hl hh).mono fun σ H Q h => ?_
  obtain ⟨ρ, fr, c, γ, st, en, p⟩ := h
  unfold ev at p
  refine tE_mono (tE_step ⟨st, en, p⟩) fun v H1 ⟨ρ1, c1, d1, e1, r1, g1⟩ => ?_
  refine tP_mono (tP_step g1) fun w H2 ⟨ρ2, c2, e2, g2⟩ => ?_
  refine tP_mono (tP_step g2) fun u H3 ⟨ρ3, c3, e3, g3⟩ => ?_
  obtain ⟨d, hd, g4⟩ := g3.opt
  exact ⟨ρ3, fr, c3, d1, d, g3.st, r1.mono (e2.trans e3), hd, fun ρ' H' v' e s r => g4.ok e s r⟩
end
end MP
end
section
set_option maxRecDepth 100000
set_option maxHeartbeats 1000000
namespace MP
open PySem PySem.Spec PyProof.Rows L2

section
variable {T : Tab} {P : Prog} {call : Call} {W : WX} {X : Cx} {a b d e : Expr} {x y z : E} {pos : Pos}
variable (hK : X.K = T.K) (hu : X.A.units + 80 < cLine) (hcalm : X.calm = true)
theorem chain_t {o1 o2 : CmpOp} {ta tb td : TE} (e1 : ta = tE T W (ev P call x)) (e2 : tb = tE T W (ev P call y)) (e3 : td = tE T W (ev P call z)) (σ : L2.St) (H : Hp) (Q : VK) (h : tE T W (ev P call (.chain o1 o2 x y z)) σ H Q) : tChain (rC T (cmpSem o1)) (rC T (cmpSem o2)) ta tb td σ H Q := by
  subst e1 e2 e3
  obtain ⟨ρ, fr, c, γ, st, en, p⟩ := h
  unfold ev at p
  refine tE_mono (tE_step ⟨st, en, p⟩) fun v H1 ⟨ρ1, c1, d1, e1, r1, g1⟩ => ?_
  refine tE_mono (tE_step g1) fun w H2 ⟨ρ2, c2, d2, e2, r2, g2⟩ => ?_
  cases q : cmpSem o1 fr.length c2 d1 d2 with
  | none => rw [q] at g2; exact g2.bad.elim
  | some k =>
    rw [q] at g2
    refine ⟨ρ2, fr, c2, d1, d2, k, g2.st, r1.mono e2, r2, q, k, rfl, ?_⟩
    cases k with
    | false =>
      rw [if_neg Bool.false_ne_true]
      exact g2.same (.bl _)
    | true =>
      rw [if_pos rfl]
      refine tE_mono (tE_step g2) fun u H3 ⟨ρ3, c3, d3, e3, r3, g3⟩ => ?_
      obtain ⟨dd, hd, g4⟩ := g3.opt
      obtain ⟨k, hk, rfl⟩ := Option.map_eq_some_iff.mp hd
      exact ⟨ρ3, fr, c3, d2, d3, k, g3.st, r2.mono e3, r3, hk, g4.same (.bl k)⟩
include hK hu in
theorem SE_chain {o1 o2 : CmpOp} (ha : PE X a (tE T W (ev P call x))) (hb : PE X b (tE T W (ev P call y))) (hd : PE X d (tE T W (ev P call z))) (hm : lastMarks [o1, o2] [b, d] = false) :
    PE X (.Compare a [o1, o2] [b, d] pos) (tE T W (ev P call (.chain o1 o2 x y z))) :=
  (pe_chain (op_cmp hK hu o1) (op_cmp hK hu o2) ha hb hd hm).mono (chain_t rfl rfl rfl)
include hK hu in
theorem ST_chain {o1 o2 : CmpOp} (ha : PE X a (tE T W (ev P call x))) (hb : PE X b (tE T W (ev P call y))) (hd : PE X d (tE T W (ev P call z))) (hm : lastMarks [o1, o2] [b, d] = false) :
    PT X (.Compare a [o1, o2] [b, d] pos) (tT T W (evT P call (.e (.chain o1 o2 x y z)))) := by
  refine (pt_chain (op_cmp hK hu o1) (op_cmp hK hu o2) ha hb hd hm).mono fun σ H Q h => ?_
  refine chain_t (T := T) (W := W) (P := P) (call := call) (x := x) (y := y) (z := z) rfl rfl rfl σ H _ ?_
  obtain ⟨ρ, fr, c, γ, st, en, p⟩ := h
  unfold evT at p
  refine tE_mono (tE_step ⟨st, en, p⟩) fun v H1 ⟨ρ1, c1, d1, e1, r1, g1⟩ => ?_
  obtain ⟨k, hk, g2⟩ := g1.opt
  cases d1 with
  | bl i => cases hk; cases r1; exact ⟨_, rfl, g2.p ρ1 H1 (Ext.refl _ _) g2.st⟩
  | _ => cases hk
theorem ST_val (ha : PE X a (tE T W (ev P call x))) (he : ∀ whole, isTrue a X.env whole = (do let v ← whole; standAt a.pos; holding [v] (truthy v))) : PT X a (tT T W (evT P call (.e x))) := by
  refine (pt_val ha he).mono fun σ H Q h => ?_
  obtain ⟨ρ, fr, c, γ, st, en, p⟩ := h
  unfold evT at p
  refine tE_mono (tE_step ⟨st, en, p⟩) fun v H1 ⟨ρ1, c1, d1, e1, r1, g1⟩ => ?_
  obtain ⟨k, hk, g2⟩ := g1.opt
  cases d1 with
  | bl i => cases hk; cases r1; exact ⟨_, rfl, g2.p ρ1 H1 (Ext.refl _ _) g2.st⟩
  | _ => cases hk
/-- a value's truth -/
def rTX (T : Tab) (P : Prog) (call : Call) : V → Hp → (Bool → Hp → Prop) → Prop := fun x H Q => ∃ ρ fr c d, StoreOk T ρ H (fr ++ c) ∧ Rep T ρ H x d ∧ Post T fr (fun _ H k => Q k H) NoW ρ H (noExc (truX P call d fr.length c))
def TrR (X : Cx) (r : V → Hp → (Bool → Hp → Prop) → Prop) : Prop := ∀ (pins : List (Addr × Obj)) (s : Shared) (σ : L2.St) (H : Hp) (x : V) (v : Value) (Q : Bool → Hp → Prop), Inv X pins σ H s → RelV x v → r x H Q → wpAny (model X.prog X.w) X.A (truthy v) (TP X pins σ Q) X.xe s
theorem ST_tv (hT : TrR X (rTX T P call)) (ha : PE X a (tE T W (ev P call x))) (he : ∀ whole, isTrue a X.env whole = (do let v ← whole; standAt a.pos; holding [v] (truthy v))) : PT X a (tT T W (evT P call (.tv x))) := by
  refine ⟨fun pins s σ H Q I h => ?_⟩
  obtain ⟨ρ, fr, c, γ, st, en, p⟩ := h
  unfold evT at p
  refine isTrue_plain (thn (ha.run pins s σ H _ I (tE_step ⟨st, en, p⟩)) fun v s1 z => ?_) (he _)
  obtain ⟨y, H1, I1, ry, ρ1, c1, d, e1, r1, g1⟩ := z
  exact hT pins s1 σ H1 y v Q I1 ry ⟨ρ1, fr, c1, d, g1.st, r1, g1.p.noW⟩
variable (hO : ∀ op, OpR X (compareOp op) (rCX T P call op))
include hO in
theorem ST_cmp {op : CmpOp} (ha : PE X a (tE T W (ev P call x))) (hb : PE X b (tE T W (ev P call y))) (hm : behindInMarks op b = false) : PT X (.Compare a [op] [b] pos) (tT T W (evT P call (.e (.cmp op x y)))) := by
  refine (pt_cmpR (hO op) ha hb hm).mono fun σ H Q h => ?_
  obtain ⟨ρ, fr, c, γ, st, en, p⟩ := h
  unfold evT ev at p
  have p2 : Post T fr (fun _ H k => Q k H) (WS W σ) ρ H ((ev P call x γ fr.length c).bind fun d1 c => (ev P call y γ fr.length c).bind fun d2 c => (noExc (cmpX P call op d1 d2 fr.length c)).bind fun d c => ofOpt (bool? d) c) := by
    have : ∀ {α β γ : Type} (r : Res α) (f : α → List Cell → Res β) (g : β → List Cell → Res γ), (r.bind f).bind g = r.bind fun a c => (f a c).bind g := fun r f g => by cases r <;> rfl
    rw [this] at p
    simp only [this] at p
    exact p
  refine tE_mono (tE_step ⟨st, en, p2⟩) fun v H1 ⟨ρ1, c1, d1, e1, r1, g1⟩ => ?_
  refine tE_mono (tE_step g1) fun w H2 ⟨ρ2, c2, d2, e2, r2, g2⟩ => ?_
  refine ⟨ρ2, fr, c2, d1, d2, g2.st, r1.mono e2, r2, ?_⟩
  refine (g2.p.bind.imp fun ρ3 H3 d _ ⟨c3, e, s, _, q⟩ v r => ?_).noW
  have g3 : Got T W σ fr γ (fun _ H k => Q k H) ρ3 H3 c3 (ofOpt (bool? d) c3) := ⟨s, g2.en.mono e, q⟩
  obtain ⟨k, hk, g4⟩ := g3.opt
  cases d with
  | bl i => cases hk; cases r; exact ⟨_, rfl, g4.p ρ3 H3 (Ext.refl _ _) g4.st⟩
  | _ => cases hk
theorem ST_nt {t : MP.T} (ha : PT X a (tT T W (evT P call t))) : PT X (.UnaryOp .Not a pos) (tT T W (evT P call (.nt t))) := by
  refine (pt_not ha).mono fun σ H Q h => ?_
  obtain ⟨ρ, fr, c, γ, st, en, p⟩ := h
  unfold evT at p
  exact tT_mono (tT_step ⟨st, en, p⟩) fun k H1 ⟨ρ1, c1, e1, g1⟩ => g1.p ρ1 H1 (Ext.refl _ _) g1.st
theorem SW_and1 {t : MP.T} (ha : PT X a (tT T W (evT P call t))) : PW X (.BoolOp .And [a] pos) (tT T W (evTA P call (.one t))) := by
  refine (pw_and1 ha).mono fun σ H Q h => ?_
  obtain ⟨ρ, fr, c, γ, st, en, p⟩ := h
  unfold evTA at p
  exact ⟨ρ, fr, c, γ, st, en, p⟩
theorem SW_or1 {t : MP.T} (ha : PT X a (tT T W (evT P call t))) : PW X (.BoolOp .Or [a] pos) (tT T W (evTO P call (.one t))) := by
  refine (pw_or1 ha).mono fun σ H Q h => ?_
  obtain ⟨ρ, fr, c, γ, st, en, p⟩ := h
  unfold evTO at p
  exact ⟨ρ, fr, c, γ, st, en, p⟩
theorem SW_and {t : MP.T} {ts : MP.Ts} {rest : List Expr} (ha : PT X a (tT T W (evT P call t))) (hb : PW X (.BoolOp .And (b :: rest) pos) (tT T W (evTA P call ts))) : PW X (.BoolOp .And (a :: b :: rest) pos) (tT T W (evTA P call (.cons t ts))) := by
  refine (pw_and ha hb).mono fun σ H Q h => ?_
  obtain ⟨ρ, fr, c, γ, st, en, p⟩ := h
  unfold evTA at p
  refine tT_mono (tT_step ⟨st, en, p⟩) fun k H1 ⟨ρ1, c1, e1, g1⟩ => ?_
  cases k with
  | true =>
    rw [if_pos rfl] at g1 ⊢
    exact ⟨ρ1, fr, c1, γ, g1.st, g1.en, g1.p⟩
  | false =>
    rw [if_neg Bool.false_ne_true] at g1 ⊢
    exact g1.p ρ1 H1 (Ext.refl _ _) g1.st
theorem SW_or {t : MP.T} {ts : MP.Ts} {rest : List Expr} (ha : PT X a (tT T W (evT P call t))) (hb : PW X (.BoolOp .Or (b :: rest) pos) (tT T W (evTO P call ts))) : PW X (.BoolOp .Or (a :: b :: rest) pos) (tT T W (evTO P call (.cons t ts))) := by
  refine (pw_or ha hb).mono fun σ H Q h => ?_
  obtain ⟨ρ, fr, c, γ, st, en, p⟩ := h
  unfold evTO at p
  refine tT_mono (tT_step ⟨st, en, p⟩) fun k H1 ⟨ρ1, c1, e1, g1⟩ => ?_
  cases k with
  | false =>
    rw [if_neg Bool.false_ne_true] at g1 ⊢
    exact ⟨ρ1, fr, c1, γ, g1.st, g1.en, g1.p⟩
  | true =>
    rw [if_pos rfl] at g1 ⊢
    exact g1.p ρ1 H1 (Ext.refl _ _) g1.st
theorem ST_and {ts : MP.Ts} {es : List Expr} (h : PW X (.BoolOp .And es pos) (tT T W (evTA P call ts))) : PT X (.BoolOp .And es pos) (tT T W (evT P call (.an ts))) := by
  refine h.pt.mono fun σ H Q h => ?_
  obtain ⟨ρ, fr, c, γ, st, en, p⟩ := h
  unfold evT at p
  exact ⟨ρ, fr, c, γ, st, en, p⟩
theorem ST_or {ts : MP.Ts} {es : List Expr} (h : PW X (.BoolOp .Or es pos) (tT T W (evTO P call ts))) : PT X (.BoolOp .Or es pos) (tT T W (evT P call (.orr ts))) := by
  refine h.pt.mono fun σ H Q h => ?_
  obtain ⟨ρ, fr, c, γ, st, en, p⟩ := h
  unfold evT at p
  exact ⟨ρ, fr, c, γ, st, en, p⟩
theorem SV_one {op : BoolOp} {f : Es → Evl D} (hf : f = evAnd P call ∨ f = evOr P call) (ha : PE X a (tE T W (ev P call x))) : PE X (.BoolOp op [a] pos) (tE T W (f (.cons x .nil))) := by
  refine (pe_one ha).mono fun σ H Q h => ?_
  obtain ⟨ρ, fr, c, γ, st, en, p⟩ := h
  refine tE_mono (tE_step (k := fun d c => .ok d c) (R := RQ T Q) ⟨st, en, ?_⟩) fun v H1 ⟨ρ1, c1, d1, e1, r1, g1⟩ => g1.same r1
  rcases hf with rfl | rfl
  · unfold evAnd at p; exact p
  · unfold evOr at p; exact p
theorem SV_and {ys : Es} {y : E} {rest : List Expr} (ha : PE X a (tE T W (ev P call x))) (hb : PE X (.BoolOp .And (b :: rest) pos) (tE T W (evAnd P call (.cons y ys)))) : PE X (.BoolOp .And (a :: b :: rest) pos) (tE T W (evAnd P call (.cons x (.cons y ys)))) := by
  refine (pe_and ha hb).mono fun σ H Q h => ?_
  obtain ⟨ρ, fr, c, γ, st, en, p⟩ := h
  rw [evAnd] at p
  refine tE_mono (tE_step ⟨st, en, p⟩) fun v H1 ⟨ρ1, c1, d1, e1, r1, g1⟩ => ?_
  cases d1 with
  | bl i =>
    cases r1
    refine ⟨i, rfl, ?_⟩
    cases i with
    | true =>
      rw [if_pos rfl]
      exact ⟨ρ1, fr, c1, γ, g1.st, g1.en, g1.p⟩
    | false =>
      rw [if_neg Bool.false_ne_true]
      exact g1.same (.bl _)
  | _ => exact g1.bad.elim
theorem SV_or {ys : Es} {y : E} {rest : List Expr} (ha : PE X a (tE T W (ev P call x))) (hb : PE X (.BoolOp .Or (b :: rest) pos) (tE T W (evOr P call (.cons y ys)))) : PE X (.BoolOp .Or (a :: b :: rest) pos) (tE T W (evOr P call (.cons x (.cons y ys)))) := by
  refine (pe_or ha hb).mono fun σ H Q h => ?_
  obtain ⟨ρ, fr, c, γ, st, en, p⟩ := h
  rw [evOr] at p
  refine tE_mono (tE_step ⟨st, en, p⟩) fun v H1 ⟨ρ1, c1, d1, e1, r1, g1⟩ => ?_
  cases d1 with
  | bl i =>
    cases r1
    refine ⟨i, rfl, ?_⟩
    cases i with
    | false =>
      rw [if_neg Bool.false_ne_true]
      exact ⟨ρ1, fr, c1, γ, g1.st, g1.en, g1.p⟩
    | true =>
      rw [if_pos rfl]
      exact g1.same (.bl _)
  | _ => exact g1.bad.elim
theorem SE_an {es : List Expr} {ys : Es} {op : BoolOp} (h : PE X (.BoolOp op es pos) (tE T W (evAnd P call ys))) : PE X (.BoolOp op es pos) (tE T W (ev P call (.an ys))) :=
  h.mono fun σ H Q ⟨ρ, fr, c, γ, st, en, p⟩ => ⟨ρ, fr, c, γ, st, en, by unfold ev at p; exact p⟩
theorem SE_orr {es : List Expr} {ys : Es} {op : BoolOp} (h : PE X (.BoolOp op es pos) (tE T W (evOr P call ys))) : PE X (.BoolOp op es pos) (tE T W (ev P call (.orr ys))) :=
  h.mono fun σ H Q ⟨ρ, fr, c, γ, st, en, p⟩ => ⟨ρ, fr, c, γ, st, en, by unfold ev at p; exact p⟩
theorem SE_ite {t : MP.T} (ht : PT X d (tT T W (evT P call t))) (ha : PE X a (tE T W (ev P call x))) (hb : PE X b (tE T W (ev P call y))) : PE X (.IfExp d a b pos) (tE T W (ev P call (.ite t x y))) := by
  refine (pe_ifExp ht ha hb).mono fun σ H Q h => ?_
  obtain ⟨ρ, fr, c, γ, st, en, p⟩ := h
  unfold ev at p
  refine tT_mono (tT_step ⟨st, en, p⟩) fun k H1 ⟨ρ1, c1, e1, g1⟩ => ?_
  cases k with
  | true =>
    rw [if_pos rfl] at g1 ⊢
    exact ⟨ρ1, fr, c1, γ, g1.st, g1.en, g1.p⟩
  | false =>
    rw [if_neg Bool.false_ne_true] at g1 ⊢
    exact ⟨ρ1, fr, c1, γ, g1.st, g1.en, g1.p⟩

/-- the name of a built-in, what it stands for -/
def Bi.nm : Bi → Str
  | .len => "len" | .tuple => "tuple" | .list => "list" | .dict => "dict" | .int => "int" | .str => "str" | .abs => "abs" | .max => "max" | .min => "min" | .sum => "sum" | .all => "all" | .any => "any" | .repr => "repr"
def Bi.vl : Bi → Value
  | .len => .builtin "len" | .tuple => .type "tuple" | .list => .type "list" | .dict => .type "dict" | .int => .type "int" | .str => .type "str" | .abs => .builtin "abs" | .max => .builtin "max" | .min => .builtin "min"
  | .sum => .builtin "sum" | .all => .builtin "all" | .any => .builtin "any" | .repr => .builtin "repr"
variable (hgd : X.A.guards = some []) (hu' : X.A.units + 120 < cLine)
include hK hcalm hgd hu' in
theorem cl_bi : ∀ f : Bi, CallR X f.vl (rA T (bltSem f))
  | .len => cl_len' hK
  | .tuple => cl_tuple hK
  | .list => cl_list hK hcalm
  | .dict => cl_dict hK hcalm
  | .int => cl_int
  | .str => cl_str
  | .abs => cl_abs
  | .max => cl_max hcalm
  | .min => cl_min hcalm
  | .sum => cl_sum hK hcalm
  | .all => cl_all hK hcalm
  | .any => cl_any hK hcalm
  | .repr => cl_repr hK hgd hu'
theorem Bi.boot : ∀ f : Bi, bootBuiltins f.nm = some f.vl := by
  intro f
  cases f <;> decide +kernel
/-- no star among them -/
def noStar : List Expr → Bool
  | [] => true
  | .Starred _ _ :: _ => false
  | _ :: es => noStar es
theorem noStar_cons {e : Expr} {es : List Expr} (h : noStar (e :: es) = true) : (∀ x p, e ≠ .Starred x p) ∧ noStar es = true := by
  cases e <;> first | exact ⟨fun _ _ z => (nomatch z), h⟩ | cases h
theorem noStar_any (pos : Pos) (env : PySem.Env) : ∀ {es : List Expr}, noStar es = true → (backTo pos (starEach es env)).any (·.1) = false
  | [], _ => rfl
  | e :: es, h => by
    obtain ⟨h1, h2⟩ := noStar_cons h
    rw [starEach_cons e es env h1]
    show (false || (backTo pos (starEach es env)).any (·.1)) = false
    rw [noStar_any pos env h2]
    rfl
/-- a built-in at data, or an own method that it asks -/
def rBX (T : Tab) (P : Prog) (call : Call) (f : Bi) : List V → Hp → VK → Prop := fun xs H Q => ∃ ρ fr c ds, StoreOk T ρ H (fr ++ c) ∧ RepL T ρ H xs ds ∧ Post T fr (RQ T Q) NoW ρ H (noExc (bltX P call f ds fr.length c))
variable (hB : ∀ f : Bi, CallR X f.vl (rBX T P call f))
include hB in
theorem SE_blt {f : Bi} {n : Str} {p : Pos} {es : List Expr} {ys : Es} (hn : n = f.nm) (hg : Gl X n) (hm : X.mg n = none) (hs : PA X (e :: es) (tA T W (evs P call ys))) (ns : noStar (e :: es) = true) : PE X (.Call (.Name n p) (e :: es) [] pos) (tE T W (ev P call (.blt f ys))) := by
  subst hn
  obtain ⟨n1, n2⟩ := noStar_cons ns
  have h1 := starEach_cons e es X.env n1
  have h2 := noStar_any pos X.env n2
  have hb := Bi.boot f
  have base : PE X (.Call (.Name f.nm p) (e :: es) [] pos) (tCB (rBX T P call f) (tA T W (evs P call ys))) := by
    have hc := hB f
    cases f <;> first | exact pe_callB hc hg hm hb hs (by decide) (by decide) h1 h2 | exact pe_callTy hc hg hm hb hs (by decide) (by decide) h1 h2
  refine base.mono fun σ H Q h => ?_
  obtain ⟨ρ, fr, c, γ, st, en, p⟩ := h
  unfold ev at p
  exact tA_mono (tA_step ⟨st, en, p⟩) fun vs H1 ⟨ρ1, c1, ds, e1, r1, g1⟩ => ⟨ρ1, fr, c1, ds, g1.st, r1, g1.p.noW⟩

theorem SE_fmt (ha : PE X a (tE T W (ev P call x))) : PE X (.FormattedValue a (-1) none pos) (tE T W (ev P call (.fmt x))) := by
  refine (pe_fmt ha).mono fun σ H Q h => ?_
  obtain ⟨ρ, fr, c, γ, st, en, p⟩ := h
  unfold ev at p
  refine tE_mono (tE_step ⟨st, en, p⟩) fun v H1 ⟨ρ1, c1, d1, e1, r1, g1⟩ => ?_
  obtain ⟨dd, hd, g2⟩ := g1.opt
  obtain ⟨s, hs, rfl⟩ := Option.map_eq_some_iff.mp hd
  cases d1 with
  | str y =>
    cases r1
    have hs' : (if y.length ≤ sizeLine then some y else none) = some s := hs
    split at hs'
    · rename_i hz
      cases hs'
      exact .inl ⟨_, rfl, hz, g2.same (.str _)⟩
    · cases hs'
  | int i =>
    cases r1
    have hs' : (if i.natAbs.log2 < 1920 then some (toString i : Str) else none) = some s := hs
    split at hs'
    · rename_i hz
      cases hs'
      exact .inr ⟨_, rfl, hz, g2.same (.str _)⟩
    · cases hs'
  | _ => cases hs
/-- the parts of an f-string -/
inductive SJ (T : Tab) (P : Prog) (call : Call) (W : WX) (X : Cx) : List Expr → Es → List TE → Prop where
  | nil : SJ T P call W X [] .nil []
  | cons {e : Expr} {x : E} {es : List Expr} {xs : Es} {ts : List TE} (h : PE X e (tE T W (ev P call x))) (r : SJ T P call W X es xs ts) : SJ T P call W X (e :: es) (.cons x xs) (tE T W (ev P call x) :: ts)
theorem SJ.pj {es : List Expr} {xs : Es} {ts : List TE} (h : SJ T P call W X es xs ts) : PJ X es ts := by
  induction h with
  | nil => exact .nil
  | cons h _ ih => exact .cons h ih
theorem SJ.run {es : List Expr} {xs : Es} {ts : List TE} (h : SJ T P call W X es xs ts) : ∀ {σ : L2.St} {fr c : List Cell} {γ : MP.Env} {ρ : List Addr} {H : Hp} {acc : Str} {Q : VK},
    Got T W σ fr γ (RQ T Q) ρ H c (evF P call xs γ fr.length c acc) → tJs ts acc σ H fun out H1 => Q (.str out) H1 := by
  induction h with
  | nil =>
    intro σ fr c γ ρ H acc Q g
    unfold evF at g
    exact g.same (.str _)
  | cons h _ ih =>
    intro σ fr c γ ρ H acc Q g
    unfold evF at g
    refine tE_mono (tE_step g) fun v H1 ⟨ρ1, c1, d1, e1, r1, g1⟩ => ?_
    cases d1 with
    | str s =>
      cases r1
      by_cases hz : acc.length + s.length ≤ sizeLine
      · have g1' : Got T W σ fr γ (RQ T Q) ρ1 H1 c1 (if acc.length + s.length ≤ sizeLine then evF P call _ γ fr.length c1 (acc ++ s) else .bad) := g1
        rw [if_pos hz] at g1'
        refine ⟨s, rfl, ?_, ih g1'⟩
        have e : (acc ++ s).length = acc.length + s.length := by
          show (acc.cps ++ s.cps).size = _
          rw [Array.size_append]; rfl
        rw [e]
        exact hz
      · have g1' : Got T W σ fr γ (RQ T Q) ρ1 H1 c1 (if acc.length + s.length ≤ sizeLine then evF P call _ γ fr.length c1 (acc ++ s) else .bad) := g1
        rw [if_neg hz] at g1'
        exact g1'.bad.elim
    | _ => exact g1.bad.elim
theorem SE_fstr {v1 v2 : Expr} {rest : List Expr} {xs : Es} {ts : List TE} (h : SJ T P call W X (v1 :: v2 :: rest) xs ts) : PE X (.JoinedStr (v1 :: v2 :: rest) pos) (tE T W (ev P call (.fstr xs))) := by
  refine (pe_joined h.pj).mono fun σ H Q g => ?_
  obtain ⟨ρ, fr, c, γ, st, en, p⟩ := g
  unfold ev at p
  exact h.run ⟨st, en, p⟩
end
end MP
end
section
set_option maxRecDepth 100000
set_option maxHeartbeats 1000000
namespace MP
open PySem PySem.Spec PyProof.Rows L2
/-- the module's dict at d has these keys and values -/
structure KdAt (K : PySem.W.Frag) (w : World) (T : Tab) (d : Addr) (kvs : List (Str × MP.K)) : Prop where
  kd : ∃ es n, KDict K w d es n
  no : ∀ z, kvs.lookup z = none → PySem.W.nsIn K d z = some none
  yes : ∀ z k, kvs.lookup z = some k → ∃ u v, PySem.W.nsIn K d z = some (some u) ∧ RelV v u ∧ ∀ h ρ H, Rep (T.hide h) ρ H v k.toD
theorem KdAt.hide {K : PySem.W.Frag} {w : World} {T : Tab} {d : Addr} {kvs : List (Str × MP.K)} (D : KdAt K w T d kvs) (h : List Addr) : KdAt K w (T.hide h) d kvs :=
  ⟨D.kd, D.no, fun z k e => by obtain ⟨u, v, h1, h2, h3⟩ := D.yes z k e; exact ⟨u, v, h1, h2, fun h' ρ H => h3 h' ρ H⟩⟩
section
variable {T : Tab} {P : Prog} {call : Call} {W : WX} {X : Cx} {a b : Expr} {x : E} {pos : Pos} {d : Addr} {kvs : List (Str × MP.K)}
theorem kd_asked (D : KdAt X.K X.w T d kvs) (z : Str) : ∃ r, PySem.W.nsIn X.K d z = some r ∧ r.isSome = (kvs.lookup z).isSome := by
  cases e : kvs.lookup z with
  | none => exact ⟨none, D.no z e, rfl⟩
  | some k => obtain ⟨u, v, h1, _⟩ := D.yes z k e; exact ⟨some u, h1, rfl⟩
/-- what `x in d`, `x not in d` read -/
theorem kin_step {neg : Bool} {σ : L2.St} {fr c : List Cell} {γ : Env} {ρ : List Addr} {H : Hp} {Q : VK} (st : StoreOk T ρ H (fr ++ c)) (en : EnvOk T ρ H σ γ) (p : Post T fr (RQ T Q) (WS W σ) ρ H (ev P call (.kin neg x kvs) γ fr.length c)) :
    tE T W (ev P call x) σ H fun v H1 => ∃ z : Str, v = .str z ∧ Q (.bl ((kvs.lookup z).isSome != neg)) H1 := by
  unfold ev at p
  refine tE_mono (tE_step ⟨st, en, p⟩) fun v H1 ⟨ρ1, c1, d1, e1, r1, g1⟩ => ?_
  cases d1 with
  | str z => cases r1; exact ⟨z, rfl, g1.same (.bl _)⟩
  | _ => exact g1.bad.elim
theorem SE_kin (ha : PE X a (tE T W (ev P call x))) (D : KdAt X.K X.w T d kvs) (hb : PE X b (tC (.ref d))) (hm : behindInMarks .In b = false) : PE X (.Compare a [.In] [b] pos) (tE T W (ev P call (.kin false x kvs))) := by
  obtain ⟨es, n, kd⟩ := D.kd
  refine (pe_cmpR (op := .In) (op_in_kd kd) ha hb hm).mono fun σ H Q h => ?_
  obtain ⟨ρ, fr, c, γ, st, en, p⟩ := h
  refine tE_mono (kin_step st en p) fun v H1 ⟨z, ez, q⟩ => ?_
  obtain ⟨r, h1, h2⟩ := kd_asked D z
  exact ⟨z, r, ez, rfl, h1, by rw [h2]; simpa using q⟩
theorem SE_knin (ha : PE X a (tE T W (ev P call x))) (D : KdAt X.K X.w T d kvs) (hb : PE X b (tC (.ref d))) (hm : behindInMarks .NotIn b = false) : PE X (.Compare a [.NotIn] [b] pos) (tE T W (ev P call (.kin true x kvs))) := by
  obtain ⟨es, n, kd⟩ := D.kd
  refine (pe_cmpR (op := .NotIn) (op_notIn_kd kd) ha hb hm).mono fun σ H Q h => ?_
  obtain ⟨ρ, fr, c, γ, st, en, p⟩ := h
  refine tE_mono (kin_step st en p) fun v H1 ⟨z, ez, q⟩ => ?_
  obtain ⟨r, h1, h2⟩ := kd_asked D z
  exact ⟨z, r, ez, rfl, h1, by rw [h2]; simpa using q⟩
/-- a test of a comparison by its value -/
theorem kin_test {neg : Bool} {σ : L2.St} {fr c : List Cell} {γ : Env} {ρ : List Addr} {H : Hp} {Q : Bool → Hp → Prop} (st : StoreOk T ρ H (fr ++ c)) (en : EnvOk T ρ H σ γ) (p : Post T fr (fun _ H k => Q k H) (WS W σ) ρ H (evT P call (.e (.kin neg x kvs)) γ fr.length c)) :
    tE T W (ev P call x) σ H fun v H1 => ∃ z : Str, v = .str z ∧ Q ((kvs.lookup z).isSome != neg) H1 := by
  unfold evT ev at p
  have p2 : Post T fr (fun _ H k => Q k H) (WS W σ) ρ H ((ev P call x γ fr.length c).bind fun dx c => match dx with
    | .str z => .ok ((kvs.lookup z).isSome != neg) c
    | _ => .bad) := by
    cases h : ev P call x γ fr.length c with
    | ok dx c1 =>
      rw [h] at p
      cases dx <;> exact p
    | exc x1 fs c1 => rw [h] at p; exact p
    | bad => rw [h] at p; exact p
  refine tE_mono (tE_step ⟨st, en, p2⟩) fun v H1 ⟨ρ1, c1, d1, e1, r1, g1⟩ => ?_
  cases d1 with
  | str z => cases r1; exact ⟨z, rfl, g1.p ρ1 H1 (Ext.refl _ _) g1.st⟩
  | _ => exact g1.bad.elim
theorem ST_kin (ha : PE X a (tE T W (ev P call x))) (D : KdAt X.K X.w T d kvs) (hb : PE X b (tC (.ref d))) (hm : behindInMarks .In b = false) : PT X (.Compare a [.In] [b] pos) (tT T W (evT P call (.e (.kin false x kvs)))) := by
  obtain ⟨es, n, kd⟩ := D.kd
  refine (pt_cmpR (op := .In) (op_in_kd kd) ha hb hm).mono fun σ H Q h => ?_
  obtain ⟨ρ, fr, c, γ, st, en, p⟩ := h
  refine tE_mono (kin_test st en p) fun v H1 ⟨z, ez, q⟩ => ?_
  obtain ⟨r, h1, h2⟩ := kd_asked D z
  exact ⟨z, r, ez, rfl, h1, _, rfl, by rw [h2]; simpa using q⟩
theorem ST_knin (ha : PE X a (tE T W (ev P call x))) (D : KdAt X.K X.w T d kvs) (hb : PE X b (tC (.ref d))) (hm : behindInMarks .NotIn b = false) : PT X (.Compare a [.NotIn] [b] pos) (tT T W (evT P call (.e (.kin true x kvs)))) := by
  obtain ⟨es, n, kd⟩ := D.kd
  refine (pt_cmpR (op := .NotIn) (op_notIn_kd kd) ha hb hm).mono fun σ H Q h => ?_
  obtain ⟨ρ, fr, c, γ, st, en, p⟩ := h
  refine tE_mono (kin_test st en p) fun v H1 ⟨z, ez, q⟩ => ?_
  obtain ⟨r, h1, h2⟩ := kd_asked D z
  exact ⟨z, r, ez, rfl, h1, _, rfl, by rw [h2]; simpa using q⟩
/-- d[x] -/
theorem SE_kix (ha : PE X a (tE T W (ev P call x))) (D : KdAt X.K X.w T d kvs) (hb : PE X b (tC (.ref d))) (hs : PlainIx a) : PE X (.Subscript b a pos) (tE T W (ev P call (.kix x kvs))) := by
  obtain ⟨es, n, kd⟩ := D.kd
  refine (pe_ix ix_kdict hb ha hs).mono fun σ H Q h => ?_
  obtain ⟨ρ, fr, c, γ, st, en, p⟩ := h
  unfold ev at p
  refine tE_mono (tE_step ⟨st, en, p⟩) fun v H1 ⟨ρ1, c1, d1, e1, r1, g1⟩ => ?_
  cases d1 with
  | str z =>
    cases r1
    cases hl : kvs.lookup z with
    | none =>
      have g2 := g1
      dsimp only at g2
      rw [hl] at g2
      exact g2.bad.elim
    | some k =>
      obtain ⟨u, v, h1, h2, h3⟩ := D.yes z k hl
      have g2 := g1
      dsimp only at g2
      rw [hl] at g2
      exact ⟨d, z, v, rfl, rfl, ⟨es, n, u, kd.at_, kd.lit, h1, h2⟩, g2.same (h3 T.hid ρ1 H1)⟩
  | _ => exact g1.bad.elim
/-- list(x), a list of the store -/
theorem SE_lsm {p : Pos} {e : Expr} {y : E} (hK : X.K = T.K) (hg : Gl X "list") (hm : X.mg "list" = none) (he : PE X e (tE T W (ev P call y))) (ns : noStar [e] = true) : PE X (.Call (.Name "list" p) [e] [] pos) (tE T W (ev P call (.lsm y))) := by
  obtain ⟨n1, n2⟩ := noStar_cons ns
  refine (pe_callTy (call_list_of (X := X)) hg hm (Bi.boot .list) (SA_cons he SA_nil n1) (by decide) (by decide) (starEach_cons e [] X.env n1) (noStar_any pos X.env n2)).mono fun σ H Q h => ?_
  obtain ⟨ρ, fr, c, γ, st, en, p⟩ := h
  unfold ev at p
  have p2 : Post T fr (RQ T Q) (WS W σ) ρ H ((evs P call (.cons y .nil) γ fr.length c).bind fun ds c => match ds with
    | [d] => (match seqOf fr.length c d with
      | some xs => newLst true xs fr.length c
      | none => .bad)
    | _ => .bad) := by
    have e1 : evs P call (.cons y .nil) γ fr.length c = (ev P call y γ fr.length c).bind fun d c => .ok [d] c := by unfold evs evs; rfl
    rw [e1]
    cases h : ev P call y γ fr.length c with
    | ok d c1 => rw [h] at p; exact p
    | exc x1 fs c1 => rw [h] at p; exact p
    | bad => rw [h] at p; exact p
  refine tA_mono (tA_step ⟨st, en, p2⟩) fun vs H1 ⟨ρ1, c1, ds, e1, r1, g1⟩ => ?_
  match ds, r1, g1 with
  | [d], r1, g1 =>
    obtain ⟨v, rfl, hv⟩ := r1.one
    dsimp only at g1
    cases hs : seqOf fr.length c1 d with
    | none => rw [hs] at g1; exact g1.bad.elim
    | some xs =>
      rw [hs] at g1
      obtain ⟨a, ws, rfl, hq, rr⟩ := hv.seq g1.st hs
      rw [← hK] at hq
      exact ⟨a, ws, rfl, hq, (newLst_got rr g1).2⟩
  | [], _, g1 => exact g1.bad.elim
  | _ :: _ :: _, _, g1 => exact g1.bad.elim
end
end MP
end
section
set_option maxRecDepth 100000
set_option maxHeartbeats 1000000
namespace MP
open PySem PySem.Spec PyProof.Rows L2

/-- room for k more calls, and no repr is at work -/
structure RoomG (k : Nat) (A : Around) : Prop extends Room k A where
  gd : A.guards = some []
theorem RoomG.mono {j k : Nat} {A : Around} (r : RoomG k A) (h : j ≤ k) : RoomG j A := ⟨r.toRoom.mono h, r.gd⟩
theorem RoomG.deeper {k : Nat} {A : Around} (r : RoomG (k + 1) A) (v : PySem.Env) : RoomG k (A.deeper v) := ⟨r.toRoom.deeper v, r.gd⟩
theorem RoomG.in1 {k : Nat} {A : Around} (r : RoomG (k + 1) A) : RoomG k A.in1 := ⟨r.toRoom.in1, r.gd⟩
theorem RoomG.make {k : Nat} {A : Around} (r : RoomG (k + 1) A) (C : Addr) (us : List Value) (kw : List (Str × Value)) : RoomG k (A.under (.builtin "type.__call__" ⟨.ref C :: us, kw⟩)) := by
  refine ⟨r.toRoom.make C us kw, ?_⟩
  have e : (Code.builtin "type.__call__" ⟨.ref C :: us, kw⟩).guards = [] := by
    first | rfl | simp [Code.guards, Code.isGuard, guardIds]
  have e2 : (A.under (Code.builtin "type.__call__" ⟨.ref C :: us, kw⟩)).guards = PySem.pushGuards (Code.builtin "type.__call__" ⟨.ref C :: us, kw⟩).guards A.guards := rfl
  rw [e2, e]
  exact r.gd

structure FnOkG (P : Program) (w : World) (K : PySem.W.Frag) (mg : Str → Option Value) (base : Heap) (CX : CXT) (k : Nat) (f : Addr) (fd : FuncData) (ps : List Str) (sp : Sp) : Prop where
  len : ∀ vs H Q E, sp vs H Q E → vs.length = ps.length
  run : ∀ (A : Around) (outer : List PySem.Env) (s : Shared) (H : Hp) (args : Args) (us : List Value) (vs : List V) (Q : VK) (E : XK),
    RoomG k A → Env0 P w K mg base A outer s H → BindsTo s fd args (ps.zip us) → Vals vs us → sp vs H Q E → codeAny (model P w) A (.call (.ref f) args) (CR CX outer P w H s Q E) s

section
variable {X : Cx} {CX : CXT} {k : Nat} {f C : Addr} {fd : FuncData} {ps ks : List Str} {sp : Sp} {dvs : List V} {dus : List Value} {E : XK} {x m : Str} {p pos apos : Pos} {e o : Expr} {es : List Expr} {kws : List Keyword} {ta : TE} {t tk : TA}
  {pins : List (Addr × Obj)} {σ : L2.St} {H : Hp} {s : Shared} {Q : VK}
/-- the callee goes, however its parameters were bound -/
theorem goG {us ws : List Value} {kw : List (Str × Value)} {vs : List V} (F : FnOkG X.prog X.w X.K X.mg X.base CX k f fd ps sp) (hr : RoomG k X.A) (hx : Passes CX X E) (I : Inv X pins σ H s)
    (hb : BindsTo s fd ⟨us, kw⟩ (ps.zip ws)) (rv : Vals vs ws) (h : sp vs H Q E) : wpAny (model X.prog X.w) X.A (call (.ref f) us kw) (EP X pins σ Q) X.xe s := by
  have go := F.run X.A X.stack s H ⟨us, kw⟩ ws vs Q E hr I.env0 hb rv h
  refine wpAny_call (codeAny_mono go fun res t q => ?_)
  rcases res with er | fl
  · exact hx _ _ _ _ _ _ I q
  · cases fl <;> first | exact I.after q | exact q.elim
/-- positional arguments, the defaults behind them -/
theorem goP {us : List Value} {vs : List V} (F : FnOkG X.prog X.w X.K X.mg X.base CX k f fd ps sp) (hr : RoomG k X.A) (hb : Binds X.K fd ps dus) (hd : Vals dvs dus) (hx : Passes CX X E) (I : Inv X pins σ H s) (rv : Vals vs us) (h : sp (vs ++ dvs) H Q E) :
    wpAny (model X.prog X.w) X.A (call (.ref f) us) (EP X pins σ Q) X.xe s := by
  have both := rv.append hd
  have n : (us ++ dus).length = ps.length := both.length.symm.trans (F.len _ _ _ _ h)
  exact goG F hr hx I (hb s us I.kIn n) both h
/-- an instance is made, its parameters bound in any way -/
theorem mkG {us ws : List Value} {kw : List (Str × Value)} {vs : List V} (M : Mk X.K C f) (F : FnOkG X.prog X.w X.K X.mg X.base CX k f fd ps sp) (hr : RoomG (k + 1) X.A) (hx : Passes CX X E) (I : Inv X pins σ H s)
    (hb : ∀ (s' : Shared) (y : Addr), X.K.In s'.heap → BindsTo s' fd ⟨.ref y :: us, kw⟩ (ps.zip (.ref y :: ws))) (rv : Vals vs ws)
    (h : ∀ y dx, H y = none → H dx = none → dx ≠ y → sp (.ref y :: vs) (upd (upd H dx (.own y)) y (.ins C dx [])) (fun v H2 => v = .non ∧ Q (.ref y) H2) E) :
    wpAny (model X.prog X.w) X.A (call (.ref C) us kw) (EP X pins σ Q) X.xe s := by
  have q := h (s.heap.objs.size + 1) s.heap.objs.size (I.hok.fresh (Nat.le_succ _)) (I.hok.fresh (Nat.le_refl _)) (Nat.ne_of_lt (Nat.lt_succ_self _))
  have J := Inv.made (C := C) I
  have both : Vals (V.ref (s.heap.objs.size + 1) :: vs) (Value.ref (s.heap.objs.size + 1) :: ws) := .cons rfl rv
  have go := F.run _ X.stack _ _ ⟨.ref (s.heap.objs.size + 1) :: us, kw⟩ (.ref (s.heap.objs.size + 1) :: ws) _ _ E (hr.make C us kw) (J.env0.make C us kw) (hb _ _ J.kIn) both q
  refine wpAny_call (make_map (f := f) I.kIn M.makes M.init (beq_iff_eq.mp M.fn) (codeAny_mono go fun res t z => ?_))
  rcases res with er | fl
  · exact hx _ _ _ _ _ _ J z
  · cases fl with
    | ret u =>
      obtain ⟨v, H', I3, rel, rfl, q3⟩ := J.after z
      exact ⟨rel, ⟨V.ref (s.heap.objs.size + 1), H', I3, rfl, q3⟩⟩
    | next => exact z.elim
    | brk => exact z.elim
    | cont => exact z.elim
theorem mkP {us : List Value} {vs : List V} (M : Mk X.K C f) (F : FnOkG X.prog X.w X.K X.mg X.base CX k f fd ps sp) (hr : RoomG (k + 1) X.A) (hb : Binds X.K fd ps dus) (hd : Vals dvs dus) (hx : Passes CX X E) (I : Inv X pins σ H s) (rv : Vals vs us)
    (h : ∀ y dx, H y = none → H dx = none → dx ≠ y → sp (.ref y :: (vs ++ dvs)) (upd (upd H dx (.own y)) y (.ins C dx [])) (fun v H2 => v = .non ∧ Q (.ref y) H2) E) :
    wpAny (model X.prog X.w) X.A (call (.ref C) us) (EP X pins σ Q) X.xe s := by
  have both := rv.append hd
  have n := F.len _ _ _ _ (h (s.heap.objs.size + 1) s.heap.objs.size (I.hok.fresh (Nat.le_succ _)) (I.hok.fresh (Nat.le_refl _)) (Nat.ne_of_lt (Nat.lt_succ_self _)))
  refine mkG (ws := us ++ dus) M F hr hx I (fun s' y ki => hb s' (.ref y :: us) ki ?_) both h
  have n2 : (vs ++ dvs).length + 1 = ps.length := n
  show (us ++ dus).length + 1 = _
  rw [← both.length]
  exact n2

theorem pg_call (F : FnOkG X.prog X.w X.K X.mg X.base CX k f fd ps sp) (hr : RoomG k X.A) (hg : Gl X x) (hm : X.mg x = some (.ref f)) (hk : PySem.W.keepIn X.K (.ref f) = true) (hb : Binds X.K fd ps dus) (hd : Vals dvs dus) (hx : Passes CX X E)
    (ha : PA X (e :: es) t) (hdb : (x == ("__debug__" : Str)) = false) (he : starEach (e :: es) X.env = (false, eval e X.env) :: starEach es X.env) (hpl : (backTo pos (starEach es X.env)).any (·.1) = false) : PE X (.Call (.Name x p) (e :: es) [] pos) (tCall sp dvs E t) :=
  ⟨fun pins s σ H Q I h => wpAny_Call_Name_kw (ld_glob I hg hm (PySem.W.callWith_K (h₀ := X.base) I.ok.mod.kin hk (thn (ha.run pos pins s σ H _ I h) fun us s1 z => by
    obtain ⟨vs, H1, I1, rv, q⟩ := z
    exact ⟨I1.kIn, goP F hr hb hd hx I1 rv q⟩) he hpl) hdb)⟩
theorem pg_call0 (F : FnOkG X.prog X.w X.K X.mg X.base CX k f fd ps sp) (hr : RoomG k X.A) (hg : Gl X x) (hm : X.mg x = some (.ref f)) (hk : PySem.W.keepIn X.K (.ref f) = true) (hb : Binds X.K fd ps dus) (hd : Vals dvs dus) (hx : Passes CX X E)
    (hdb : (x == ("__debug__" : Str)) = false) : PE X (.Call (.Name x p) [] [] pos) (tCall sp dvs E tNil) :=
  ⟨fun pins s σ H Q I h => wpAny_Call_Name_kw (ld_glob I hg hm (PySem.W.callWith_K0 I.kIn hk (goP (us := []) F hr hb hd hx I .nil h)) hdb)⟩
/-- a def held by a slot -/
theorem pg_callL {i : Nat} (F : FnOkG X.prog X.w X.K X.mg X.base CX k f fd ps sp) (hr : RoomG k X.A) (hN : X.N[i]? = some x) (hv : Vis X.env.scope x) (hk : PySem.W.keepIn X.K (.ref f) = true) (hb : Binds X.K fd ps dus) (hd : Vals dvs dus) (hx : Passes CX X E) (ha : PA X (e :: es) t)
    (hdb : (x == ("__debug__" : Str)) = false) (hcd : (x == ("__classdict__" : Str)) = false) (he : starEach (e :: es) X.env = (false, eval e X.env) :: starEach es X.env) (hpl : (backTo pos (starEach es X.env)).any (·.1) = false) :
    PE X (.Call (.Name x p) (e :: es) [] pos) (tCallL i f sp dvs E t) := by
  refine ⟨fun pins s σ H Q I ⟨hs, ht⟩ => wpAny_Call_Name_kw (thn ((pe_var (pos := p) hN hv hdb hcd).run pins s σ H (fun v H1 => v = .ref f ∧ H1 = H) I ⟨_, hs, rfl, rfl⟩) fun u s1 z => ?_)⟩
  obtain ⟨v, H1, I1, r1, rfl, rfl⟩ := z
  cases r1
  exact PySem.W.callWith_K (h₀ := X.base) I.ok.mod.kin hk (thn (ha.run pos pins s1 σ _ _ I1 ht) fun us s2 z => by
    obtain ⟨vs, H2, I2, rv, q⟩ := z
    exact ⟨I2.kIn, goP F hr hb hd hx I2 rv q⟩) he hpl
theorem pg_make (M : Mk X.K C f) (F : FnOkG X.prog X.w X.K X.mg X.base CX k f fd ps sp) (hr : RoomG (k + 1) X.A) (hg : Gl X x) (hm : X.mg x = some (.ref C)) (hb : Binds X.K fd ps dus) (hd : Vals dvs dus) (hx : Passes CX X E)
    (ha : PA X (e :: es) t) (hdb : (x == ("__debug__" : Str)) = false) (he : starEach (e :: es) X.env = (false, eval e X.env) :: starEach es X.env) (hpl : (backTo pos (starEach es X.env)).any (·.1) = false) : PE X (.Call (.Name x p) (e :: es) [] pos) (tMake C sp dvs E t) :=
  ⟨fun pins s σ H Q I h => wpAny_Call_Name_kw (ld_glob I hg hm (PySem.W.callWith_K (h₀ := X.base) I.ok.mod.kin M.kp (thn (ha.run pos pins s σ H _ I h) fun us s1 z => by
    obtain ⟨vs, H1, I1, rv, q⟩ := z
    exact ⟨I1.kIn, mkP M F hr hb hd hx I1 rv q⟩) he hpl) hdb)⟩
/-- a method, its call's form told -/
theorem pg_meth {pl : Sem Bool} (he : PE X o ta) (c : Cls X.K C) (hm : Meth X.K C m f) (F : FnOkG X.prog X.w X.K X.mg X.base CX k f fd ps sp) (hr : RoomG k X.A) (hb : Binds X.K fd ps dus) (hd : Vals dvs dus) (hx : Passes CX X E) (ha : PA X (e :: es) t)
    (hst : starEach (e :: es) X.env = (false, eval e X.env) :: starEach es X.env) (hpl : (backTo pos (starEach es X.env)).any (·.1) = false)
    (ht : eval (.Call (.Attribute o m apos) (e :: es) [] pos) X.env = (eval o X.env >>= fun ov => standAt apos.atName >>= fun _ => holding [ov] (getMethod ov m pl) >>= fun ff => callWith pos ff.1 ff.2 (backTo pos (starEach (e :: es) X.env)) (backToKw pos (keywordEach [] X.env)))) :
    PE X (.Call (.Attribute o m apos) (e :: es) [] pos) (tMeth C m sp dvs E ta t) := by
  refine ⟨fun pins s σ H Q I h => PySem.W.methodCall_KW (pl := pl) (thn (he.run pins s σ H _ I h) fun u s1 z => ?_) ht⟩
  obtain ⟨y, H1, I1, ry, a, dx, fs, rfl, ea, l, q⟩ := z
  cases (show u = Value.ref a from ry)
  exact getmeth_ok I1 ea c hm l (PySem.W.callWith_K (first := [.ref a]) (h₀ := X.base) I.ok.mod.kin hm.kp (thn (ha.run pos pins s1 σ H1 _ I1 q) fun us s2 z => by
    obtain ⟨vs, H2, I2, rv, q2⟩ := z
    exact ⟨I2.kIn, goP (us := .ref a :: us) (vs := .ref a :: vs) F hr hb hd hx I2 (.cons rfl rv) q2⟩) hst hpl)
theorem pg_meth0 {pl : Sem Bool} (he : PE X o ta) (c : Cls X.K C) (hm : Meth X.K C m f) (F : FnOkG X.prog X.w X.K X.mg X.base CX k f fd ps sp) (hr : RoomG k X.A) (hb : Binds X.K fd ps dus) (hd : Vals dvs dus) (hx : Passes CX X E)
    (ht : eval (.Call (.Attribute o m apos) [] [] pos) X.env = (eval o X.env >>= fun ov => standAt apos.atName >>= fun _ => holding [ov] (getMethod ov m pl) >>= fun ff => callWith pos ff.1 ff.2 (backTo pos (starEach [] X.env)) (backToKw pos (keywordEach [] X.env)))) :
    PE X (.Call (.Attribute o m apos) [] [] pos) (tMeth C m sp dvs E ta tNil) := by
  refine ⟨fun pins s σ H Q I h => PySem.W.methodCall_KW (pl := pl) (thn (he.run pins s σ H _ I h) fun u s1 z => ?_) ht⟩
  obtain ⟨y, H1, I1, ry, a, dx, fs, rfl, ea, l, q⟩ := z
  cases (show u = Value.ref a from ry)
  exact getmeth_ok I1 ea c hm l (PySem.W.callWith_K0 (first := [.ref a]) I1.kIn hm.kp (goP (us := [.ref a]) (vs := [.ref a]) F hr hb hd hx I1 (.cons rfl .nil) q))
/-- a property -/
theorem pg_prop {pp : Addr} (he : PE X e ta) (c : Cls X.K C) (hp : PropOf X.K C m pp f) (F : FnOkG X.prog X.w X.K X.mg X.base CX k f fd ps sp) (hr : RoomG (k + 1) X.A) (hb : Binds X.K fd ps dus) (hd : Vals dvs dus) (hx : Passes CX X.nox E)
    (hab : attributeBase e m X.env (eval e X.env) = eval e X.env) : PE X (.Attribute e m pos) (tProp C sp dvs E ta) := by
  refine ⟨fun pins s σ H Q I h => attr_of hab (thn (he.run pins s σ H _ I h) fun u s1 z => ?_)⟩
  obtain ⟨y, H1, I1, ry, a, dx, fs, rfl, ea, q⟩ := z
  cases (show u = Value.ref a from ry)
  obtain ⟨mA, O, _, _, _, _⟩ := ins_get I1.hok ea
  obtain ⟨od, J, _⟩ := O.look
  obtain ⟨rest, hrec⟩ := hp.rec_
  have J1 := I1.tok (s1.toks + 1)
  have both : Vals (V.ref a :: dvs) (Value.ref a :: dus) := .cons rfl hd
  have n : ([Value.ref a] ++ dus).length = ps.length := both.length.symm.trans (F.len _ _ _ _ q)
  have hc : (PySem.W.clsIn X.K C).isSome = true := by
    obtain ⟨cd, hc, _⟩ := PySem.W.any_some c.hd
    rw [hc]; rfl
  have go := F.run X.A.in1 X.stack { s1 with toks := s1.toks + 1 } H1 ⟨[.ref a], []⟩ (.ref a :: dus) (.ref a :: dvs) Q E hr.in1 J1.env0.in1 (hb _ [.ref a] J1.kIn n) both q
  refine PySem.W.get_bind I1.kIn J (PySem.W.plainGet_of (c.get m)).1 (PySem.W.findObj_data hc hp.at_ hp.get hp.tak) (PySem.W.plainGet_of (c.get m)).2 (wpAny_call (PySem.W.prop_get (s := { s1 with toks := s1.toks + 1 }) J1.kIn hrec (codeAny_mono go fun res t z => ?_)))
  rcases res with er | fl
  · exact False.elim (hx _ _ _ _ _ _ (J1.wish _) z)
  · cases fl with
    | ret u =>
      obtain ⟨v, H', I3, rv, q3⟩ := J1.after z
      show wpAny _ _ (handedOut u) _ _ _
      rw [PySem.W.handedOut_of (handed_of rv)]
      exact wpAny_pure ⟨v, H', I3, rv, q3⟩
    | next => exact z.elim
    | brk => exact z.elim
    | cont => exact z.elim
end

theorem fnG_body {CX : CXT} {P : Program} {w : World} {K : PySem.W.Frag} {mg : Str → Option Value} {base : Heap} {x qual : Str} {params : Arguments} {body : List Stmt} {scope : Scope} {dvs : List V} {kws : List (Str × V)} {f : Addr} {fd : FuncData} {N ps : List Str} {k : Nat} {sp : Sp}
    (F : FunD K x qual params body scope dvs kws f fd) (S : FnScope N ps scope) (len : ∀ vs H Q E, sp vs H Q E → vs.length = ps.length)
    (hbody : ∀ (cdv : Value) (A : Around) (outer : List PySem.Env) (s : Shared) (H : Hp) (vs : List V) (Q : VK) (E : XK), fd.code = cdv → RoomG k (A.deeper (envOfC qual scope s.heap.objs.size f cdv)) → sp vs H Q E →
      ∃ t, PSs (cxOf CX P w K mg base N qual scope f cdv A outer s H E) body t ∧ t { nx := fun _ H' => Q .non H', rt := Q } (L2.start N vs) H) : FnOkG P w K mg base CX (k + 1) f fd ps sp := by
  obtain ⟨oc, od, dV, kV, doc, pm, an, cdv, ct, osl, rfl, lk, hcd, _, _⟩ := F.ex
  refine ⟨len, fun A outer s H args us vs Q E hr e0 hb rv hsp => ?_⟩
  have KX : K.In s.heap := e0.mod.kin.keeps fun b u z => (e0.bs b u z).1
  have lim : s.heap.NoLimit := e0.mod.nolimit.keeps fun b u z => (e0.bs b u z).1
  have kinds : ∀ y ∈ ps.zip us, scope.names.lookup y.1 = some .local ∨ (scope.names.lookup y.1 = some .cell ∧ ((cellsFrom (s.heap.objs.size + 1) scope.names []).lookup y.1).isSome = true) := by
    rintro ⟨n, v⟩ hy
    exact (S.par n (List.of_mem_zip hy).1).imp id fun q => ⟨q, PySem.W.cellsFrom_some _ _ _ (.inl q)⟩
  refine codeAny_call_function hr.depth (KX _ _ lk) rfl S.co S.gen rfl (PySem.W.codeRec_of KX hcd) (hb _ _ _ _ (wpAny_newFunctionEnv_cells S.kind kinds fun env he s1 st => ?_))
  subst he
  obtain ⟨t, ht, hq⟩ := hbody cdv A outer s H vs Q E rfl (hr.deeper _) hsp
  have I := inv_start (CX := CX) (E := E) S hr.hd e0 (len _ _ _ _ hsp) rv st
  refine ⟨lim.keeps st.toInCall.keep, codeAny_func (wpAny_mono (ht.run [] s1 (L2.start N vs) H _ I hq) (fun fl s' hs => ?_) fun _ _ z => z)⟩
  cases fl with
  | ret u =>
    obtain ⟨v, σ', H', J, rel, q⟩ := hs
    exact ⟨v, H', J.os, J.bare, J.base, J.hok, rel, q⟩
  | next =>
    obtain ⟨σ', H', J, q⟩ := hs
    exact ⟨V.non, H', J.os, J.bare, J.base, J.hok, rfl, q⟩
  | brk =>
    obtain ⟨_, _, _, q⟩ := hs
    exact q.elim
  | cont =>
    obtain ⟨_, _, _, q⟩ := hs
    exact q.elim
end MP
end
section
set_option maxRecDepth 100000
set_option maxHeartbeats 1000000
namespace MP
open PySem PySem.Spec PyProof.Rows L2

/-- what a def promises -/
def spF (T : Tab) (call : Call) (f : Str) : Sp := fun vs H Q _ => ∃ ρ fr c ds, StoreOk T ρ H (fr ++ c) ∧ RepAL T ρ H vs ds ∧ Post T fr (RQ T Q) NoW ρ H (noExc (call f ds fr.length c))
structure FnG (X : Cx) (T : Tab) (call : Call) (k : Nat) (f : Str) (a : Addr) (fd : FuncData) (ps : List Str) : Prop where
  at_ : T.fA f = some a
  kp : PySem.W.keepIn X.K (.ref a) = true
  fn : PySem.W.isFn X.K (.ref a) = true
  ok : FnOkG X.prog X.w X.K X.mg X.base CX0 k a fd ps (spF T call f)
  bd : Binds X.K fd ps []
/-- the defaults dv fill up -/
def Dfl (X : Cx) (T : Tab) (fd : FuncData) (ps : List Str) (dv : List D) : Prop := ∃ ds vs, Binds X.K fd ps ds ∧ Vals vs ds ∧ ∀ ρ H, RepL T ρ H vs dv
theorem FnG.dfl {X : Cx} {T : Tab} {call : Call} {k : Nat} {f : Str} {a : Addr} {fd : FuncData} {ps : List Str} (F : FnG X T call k f a fd ps) : Dfl X T fd ps [] := ⟨[], [], F.bd, .nil, fun _ _ => .nil⟩
section
variable {T : Tab} {P : Prog} {call : Call} {W : WX} {X : Cx} {a b d e : Expr} {x y z : E} {pos : Pos} {σ : L2.St} {fr c : List Cell} {γ : MP.Env} {ρ : List Addr} {H : Hp}
/-- a def called at data -/
theorem spF_of {f : Str} {vs : List V} {ds : List D} {Q : VK} {E : XK} {α : Type} {R : List Addr → Hp → α → Prop} {k : D → List Cell → Res α} (g : Got T W σ fr γ R ρ H c ((noExc (call f ds fr.length c)).bind k)) (r : RepL T ρ H vs ds)
    (h : ∀ ρ1 H1 c1 d v, Ext ρ H ρ1 H1 → Rep T ρ1 H1 v d → Got T W σ fr γ R ρ1 H1 c1 (k d c1) → Q v H1) : spF T call f vs H Q E :=
  ⟨ρ, fr, c, ds, g.st, r.A, (g.p.bind.imp fun ρ1 H1 d _ ⟨c1, e, s, _, q⟩ v r => h ρ1 H1 c1 d v e r ⟨s, g.en.mono e, q⟩).noW⟩
theorem spF_same {f : Str} {vs : List V} {ds : List D} {Q : VK} {E : XK} (g : Got T W σ fr γ (RQ T Q) ρ H c (noExc (call f ds fr.length c))) (r : RepL T ρ H vs ds) : spF T call f vs H Q E :=
  ⟨ρ, fr, c, ds, g.st, r.A, g.p.noW⟩

/-- f(e, ..), its defaults -/
theorem SE_call {n f : Str} {p : Pos} {es : List Expr} {ys : Es} {dv : List K} {k : Nat} {fa : Addr} {fd : FuncData} {ps : List Str} (F : FnG X T call k f fa fd ps) (hD : Dfl X T fd ps (dv.map K.toD)) (hr : RoomG k X.A) (hg : Gl X n) (hm : X.mg n = some (.ref fa)) (hdb : (n == ("__debug__" : Str)) = false)
    (hs : PA X (e :: es) (tA T W (evs P call ys))) (ns : noStar (e :: es) = true) : PE X (.Call (.Name n p) (e :: es) [] pos) (tE T W (ev P call (.call f ys dv))) := by
  obtain ⟨n1, n2⟩ := noStar_cons ns
  obtain ⟨dsv, dvs, hb, hd, hR⟩ := hD
  refine (pg_call F.ok hr hg hm F.kp hb hd pass0 hs hdb (starEach_cons e es X.env n1) (noStar_any pos X.env n2)).mono fun σ H Q h => ?_
  obtain ⟨ρ, fr, c, γ, st, en, p⟩ := h
  unfold ev at p
  exact tA_mono (tA_step ⟨st, en, p⟩) fun vs H1 ⟨ρ1, c1, ds, e1, r1, g1⟩ => spF_same g1 (r1.append (hR _ _))
theorem SE_call0 {n f : Str} {p : Pos} {dv : List K} {k : Nat} {fa : Addr} {fd : FuncData} {ps : List Str} (F : FnG X T call k f fa fd ps) (hD : Dfl X T fd ps (dv.map K.toD)) (hr : RoomG k X.A) (hg : Gl X n) (hm : X.mg n = some (.ref fa)) (hdb : (n == ("__debug__" : Str)) = false) :
    PE X (.Call (.Name n p) [] [] pos) (tE T W (ev P call (.call f .nil dv))) := by
  obtain ⟨dsv, dvs, hb, hd, hR⟩ := hD
  refine (pg_call0 F.ok hr hg hm F.kp hb hd pass0 hdb).mono fun σ H Q h => ?_
  obtain ⟨ρ, fr, c, γ, st, en, p⟩ := h
  unfold ev evs at p
  exact spF_same (E := E0) (fr := fr) (c := c) (γ := γ) (σ := σ) ⟨st, en, p⟩ (hR _ _)

/-- lambdas run -/
def LamR (X : Cx) (T : Tab) (call : Call) : Prop := ∀ (pins : List (Addr × Obj)) (s : Shared) (σ : L2.St) (H : Hp) (us : List Value) (vs : List V) (Q : VK) (ρ : List Addr) (fr c : List Cell) (a : Addr) (x : E) (sz np : Nat) (cs ds : List D),
  Inv X pins σ H s → StoreOk T ρ H (fr ++ c) → LamAt T ρ H a x sz np cs → Vals vs us → RepL T ρ H vs ds → ds.length = np →
  Post T fr (RQ T Q) NoW ρ H (noExc (call.lm x ((ds ++ cs).map some ++ List.replicate (sz - (ds ++ cs).length) none) fr.length c)) → wpAny (model X.prog X.w) X.A (PySem.call (.ref a) us) (EP X pins σ Q) X.xe s
theorem LamAt.fn {a : Addr} {sz np : Nat} {cs : List D} {pins : List (Addr × Obj)} {s : Shared} (l : LamAt T ρ H a x sz np cs) (I : Inv X pins σ H s) : PySem.W.FnAt a s.heap := by
  obtain ⟨params, body, scope, ps, fr, qual, cl, c', pm, ctv, _, _, h3, _⟩ := l
  obtain ⟨h4, _⟩ := (show ObjOk X.prog X.w H s.heap a (KO _) from I.hok a _ h3)
  exact ⟨_, _, _, _, h4⟩
/-- x(e, ..), a def or a lambda held by a name -/
theorem SE_callv {n : Str} {i : Nat} {p : Pos} {es : List Expr} {ys : Es} {k : Nat} (hA : ∀ f, (P.fun? f).isSome = true → ∃ fa fd ps, FnG X T call k f fa fd ps) (hL : LamR X T call) (hr : RoomG k X.A) (hN : X.N[i]? = some n) (hv : Vis X.env.scope n) (hdb : (n == ("__debug__" : Str)) = false) (hcd : (n == ("__classdict__" : Str)) = false)
    (hs : PA X (e :: es) (tA T W (evs P call ys))) (ns : noStar (e :: es) = true) : PE X (.Call (.Name n p) (e :: es) [] pos) (tE T W (ev P call (.callv i ys))) := by
  obtain ⟨n1, n2⟩ := noStar_cons ns
  refine ⟨fun pins s σ H Q I h => ?_⟩
  obtain ⟨ρ, fr, c, γ, st, en, p⟩ := h
  unfold ev at p
  cases hg : γ[i]? with
  | none => rw [hg] at p; exact p.elim
  | some od =>
    rw [hg] at p
    cases od with
    | none => exact p.elim
    | some dd =>
      obtain ⟨v, h1, h2⟩ := en.at_ i dd hg
      cases dd with
      | fn f =>
        have p1 : Post T fr (RQ T Q) (WS W σ) ρ H (if (P.fun? f).isSome then (evs P call ys γ fr.length c).bind fun ds c => noExc (call f ds fr.length c) else .bad) := p
        by_cases hz : (P.fun? f).isSome = true
        · rw [if_pos hz] at p1
          obtain ⟨fa, fd, ps, F⟩ := hA f hz
          cases h2.data rfl with
          | fn ha =>
            have e2 := F.at_
            rw [ha] at e2
            cases e2
            refine (pg_callL F.ok hr hN hv F.kp F.bd .nil pass0 hs hdb hcd (starEach_cons e es X.env n1) (noStar_any pos X.env n2)).run pins s σ H Q I ⟨h1, ?_⟩
            refine tA_mono (tA_step ⟨st, en, p1⟩) fun vs H1 ⟨ρ1, c1, ds, e1, r1, g1⟩ => ?_
            rw [List.append_nil]
            exact spF_same g1 r1
        · rw [if_neg hz] at p1; exact p1.elim
      | lam x sz np cs =>
        have p1 : Post T fr (RQ T Q) (WS W σ) ρ H ((evs P call ys γ fr.length c).bind fun ds c => if ds.length = np then noExc (call.lm x ((ds ++ cs).map some ++ List.replicate (sz - (ds ++ cs).length) none) fr.length c) else .bad) := p
        rcases h2 with h2 | ⟨a, x', sz', np', cs', e1, rfl, la⟩
        · cases h2
        · cases e1
          refine wpAny_Call_Name_kw (thn ((pe_var (pos := _) hN hv hdb hcd).run pins s σ H (fun v H1 => v = .ref a ∧ H1 = H) I ⟨.ref a, h1, rfl, rfl⟩) fun u s1 z => ?_)
          obtain ⟨v, H1, I1, r1, rfl, rfl⟩ := z
          cases (show u = Value.ref a from r1)
          refine PySem.W.callWith_F (first := []) (la.fn I1) (thn (hs.run pos pins s1 σ _ _ I1 (tA_step ⟨st, en, p1⟩)) fun us s2 z => ?_) (starEach_cons e es X.env n1) (noStar_any pos X.env n2)
          obtain ⟨vs, H2, I2, rv, ρ1, c1, ds, e1, r1, g1⟩ := z
          have la2 : LamAt T ρ1 H2 a x sz np cs := la.tr rfl (fun b o q t n => ⟨e1.keepN b o q t n.1, e1.out q n.1, n.2⟩) fun v d r => r.mono e1
          refine ⟨la2.fn I2, ?_⟩
          by_cases hz : ds.length = np
          · have g2 : Got T W σ fr γ (RQ T Q) ρ1 H2 c1 (if ds.length = np then noExc (call.lm x ((ds ++ cs).map some ++ List.replicate (sz - (ds ++ cs).length) none) fr.length c1) else .bad) := g1
            rw [if_pos hz] at g2
            exact hL pins s2 σ H2 us vs Q ρ1 fr c1 a x sz np cs ds I2 g2.st la2 rv r1 hz g2.p.noW
          · have g2 : Got T W σ fr γ (RQ T Q) ρ1 H2 c1 (if ds.length = np then noExc (call.lm x ((ds ++ cs).map some ++ List.replicate (sz - (ds ++ cs).length) none) fr.length c1) else .bad) := g1
            rw [if_neg hz] at g2
            exact g2.bad.elim
      | _ => exact p.elim
/-- x(), a lambda held by a name -/
theorem SE_callv0 {n : Str} {i : Nat} {p : Pos} {k : Nat} (hA : ∀ f, (P.fun? f).isSome = true → ∃ fa fd ps, FnG X T call k f fa fd ps) (hL : LamR X T call) (hr : RoomG k X.A) (hN : X.N[i]? = some n) (hv : Vis X.env.scope n) (hdb : (n == ("__debug__" : Str)) = false) (hcd : (n == ("__classdict__" : Str)) = false) : PE X (.Call (.Name n p) [] [] pos) (tE T W (ev P call (.callv i .nil))) := by
  refine ⟨fun pins s σ H Q I h => ?_⟩
  obtain ⟨ρ, fr, c, γ, st, en, p⟩ := h
  unfold ev at p
  cases hg : γ[i]? with
  | none => rw [hg] at p; exact p.elim
  | some od =>
    rw [hg] at p
    cases od with
    | none => exact p.elim
    | some dd =>
      obtain ⟨v, h1, h2⟩ := en.at_ i dd hg
      cases dd with
      | lam x sz np cs =>
        have p1 : Post T fr (RQ T Q) (WS W σ) ρ H ((evs P call .nil γ fr.length c).bind fun ds c => if ds.length = np then noExc (call.lm x ((ds ++ cs).map some ++ List.replicate (sz - (ds ++ cs).length) none) fr.length c) else .bad) := p
        rcases h2 with h2 | ⟨a, x', sz', np', cs', e1, rfl, la⟩
        · cases h2
        · cases e1
          refine wpAny_Call_Name_kw (thn ((pe_var (pos := _) hN hv hdb hcd).run pins s σ H (fun v H1 => v = .ref a ∧ H1 = H) I ⟨.ref a, h1, rfl, rfl⟩) fun u s1 z => ?_)
          obtain ⟨v, H1, I1, r1, rfl, rfl⟩ := z
          cases (show u = Value.ref a from r1)
          refine PySem.W.callWith_F0 (first := []) (la.fn I1) ?_
          unfold evs at p1
          have p2 : Post T fr (RQ T Q) (WS W σ) ρ H1 (if [].length = np then noExc (call.lm x (([] ++ cs).map some ++ List.replicate (sz - ([] ++ cs).length) none) fr.length c) else .bad) := p1
          by_cases hz : ([] : List D).length = np
          · rw [if_pos hz] at p2
            exact hL pins s1 σ H1 [] [] Q ρ fr c a x sz np cs [] I1 st la .nil .nil hz p2.noW
          · rw [if_neg hz] at p2; exact p2.elim
      | fn f =>
        have p1 : Post T fr (RQ T Q) (WS W σ) ρ H (if (P.fun? f).isSome then (evs P call .nil γ fr.length c).bind fun ds c => noExc (call f ds fr.length c) else .bad) := p
        by_cases hz : (P.fun? f).isSome = true
        · rw [if_pos hz] at p1
          obtain ⟨fa, fd, ps, F⟩ := hA f hz
          cases h2.data rfl with
          | fn ha =>
            have e2 := F.at_
            rw [ha] at e2
            cases e2
            unfold evs at p1
            refine wpAny_Call_Name_kw (thn ((pe_var (pos := _) hN hv hdb hcd).run pins s σ H (fun v H1 => v = .ref fa ∧ H1 = H) I ⟨.ref fa, h1, rfl, rfl⟩) fun u s1 z => ?_)
            obtain ⟨v, H1, I1, r1, rfl, rfl⟩ := z
            cases (show u = Value.ref fa from r1)
            exact PySem.W.callWith_K0 I1.kIn F.kp (goP (us := []) (vs := []) (dvs := []) (dus := []) F.ok hr F.bd .nil pass0 I1 .nil (spF_same (E := E0) (fr := fr) (c := c) (γ := γ) (σ := σ) ⟨st, en, p1⟩ .nil))
        · rw [if_neg hz] at p1; exact p1.elim
      | _ => exact p.elim
end
end MP
end
section
set_option maxRecDepth 100000
set_option maxHeartbeats 1000000
namespace MP
open PySem PySem.Spec PyProof.Rows L2
section
variable {T : Tab} {ρ r : List Addr} {H : Hp}
mutual
theorem Rep.closed : ∀ {v : V} {d : D}, Rep T ρ H v d → MP.closed ρ.length d = true
  | _, _, .non => rfl
  | _, _, .bl b => rfl
  | _, _, .int i => rfl
  | _, _, .str s => rfl
  | _, _, .tup h d n q => RepL.closed q
  | _, _, .tupK h q => RepL.closed q
  | _, _, .lst h n q => RepL.closed q
  | _, _, .dic h n q => RepK.closed q
  | _, _, .ins h c n q => RepF.closed q
  | _, _, .ref h => Nat.ble_eq_true_of_le (List.getElem?_eq_some_iff.mp h).1
  | _, _, .cls h => rfl
  | _, _, .fn h => rfl
  | _, _, .scr h n => rfl
  | _, _, .scrK h => rfl
theorem RepL.closed : ∀ {vs : List V} {ds : List D}, RepL T ρ H vs ds → closedL ρ.length ds = true
  | _, _, .nil => rfl
  | _, _, .cons h q => by
    show (MP.closed _ _ && closedL _ _) = true
    rw [Rep.closed h, RepL.closed q]; rfl
theorem RepK.closed : ∀ {vs : List (Key × V)} {ds : List (D × D)}, RepK T ρ H vs ds → closedK ρ.length ds = true
  | _, _, .nil => rfl
  | _, _, .cons (k := k) h q => by
    show (MP.closed _ (kD k) && (MP.closed _ _ && closedK _ _)) = true
    rw [Rep.closed h, RepK.closed q]
    cases k <;> rfl
theorem RepF.closed : ∀ {vs : List (Str × V)} {ds : List (Str × D)}, RepF T ρ H vs ds → closedF ρ.length ds = true
  | _, _, .nil => rfl
  | _, _, .cons h q => by
    show (MP.closed _ _ && closedF _ _) = true
    rw [Rep.closed h, RepF.closed q]; rfl
end
theorem nin {a : Addr} (h : a ∉ ρ ++ r) : a ∉ ρ := fun m => h (List.mem_append_left _ m)
mutual
theorem Rep.shrink : ∀ {v : V} {d : D}, Rep T (ρ ++ r) H v d → MP.closed ρ.length d = true → Rep T ρ H v d
  | _, _, .non, _ => .non
  | _, _, .bl b, _ => .bl b
  | _, _, .int i, _ => .int i
  | _, _, .str s, _ => .str s
  | _, _, .tup h d n q, z => .tup h d ⟨nin n.1, n.2⟩ (RepL.shrink q z)
  | _, _, .tupK h q, z => .tupK h (RepL.shrink q z)
  | _, _, .lst h n q, z => .lst h ⟨nin n.1, n.2⟩ (RepL.shrink q z)
  | _, _, .dic h n q, z => .dic h ⟨nin n.1, n.2⟩ (RepK.shrink q z)
  | _, _, .ins h c n q, z => .ins h c ⟨nin n.1, n.2⟩ (RepF.shrink q z)
  | _, _, .ref h, z => .ref (by rw [List.getElem?_append_left (Nat.le_of_ble_eq_true z)] at h; exact h)
  | _, _, .cls h, _ => .cls h
  | _, _, .fn h, _ => .fn h
  | _, _, .scr h n, _ => .scr h ⟨nin n.1, n.2⟩
  | _, _, .scrK h, _ => .scrK h
theorem RepL.shrink : ∀ {vs : List V} {ds : List D}, RepL T (ρ ++ r) H vs ds → closedL ρ.length ds = true → RepL T ρ H vs ds
  | _, _, .nil, _ => .nil
  | _, _, .cons h q, z => by
    have z : (MP.closed _ _ && closedL _ _) = true := z
    rw [Bool.and_eq_true] at z
    exact .cons (Rep.shrink h z.1) (RepL.shrink q z.2)
theorem RepK.shrink : ∀ {vs : List (Key × V)} {ds : List (D × D)}, RepK T (ρ ++ r) H vs ds → closedK ρ.length ds = true → RepK T ρ H vs ds
  | _, _, .nil, _ => .nil
  | _, _, .cons (k := k) h q, z => by
    have z : (MP.closed _ (kD k) && (MP.closed _ _ && closedK _ _)) = true := z
    rw [Bool.and_eq_true, Bool.and_eq_true] at z
    exact .cons (Rep.shrink h z.2.1) (RepK.shrink q z.2.2)
theorem RepF.shrink : ∀ {vs : List (Str × V)} {ds : List (Str × D)}, RepF T (ρ ++ r) H vs ds → closedF ρ.length ds = true → RepF T ρ H vs ds
  | _, _, .nil, _ => .nil
  | _, _, .cons h q, z => by
    have z : (MP.closed _ _ && closedF _ _) = true := z
    rw [Bool.and_eq_true] at z
    exact .cons (Rep.shrink h z.1) (RepF.shrink q z.2)
end
theorem CellAt.closed {a : Addr} {c : Cell} (h : CellAt T ρ H a c) : Cell.closed ρ.length c = true := by
  cases h with
  | lst _ q => exact RepL.closed q
  | ins _ _ q => exact RepF.closed q
  | exn0 _ _ => rfl
  | exn _ _ _ _ q _ => exact RepF.closed q
theorem CellAt.shrink {a : Addr} {c : Cell} (h : CellAt T (ρ ++ r) H a c) (z : Cell.closed ρ.length c = true) : CellAt T ρ H a c := by
  cases h with
  | lst h q => exact .lst h (RepL.shrink q z)
  | ins h k q => exact .ins h k (RepF.shrink q z)
  | exn0 h k => exact .exn0 h k
  | exn h d n k q y => exact .exn h d (nin n) k (RepF.shrink q z) y
theorem StoreOk.closed {cs : List Cell} (s : StoreOk T ρ H cs) : cs.all (Cell.closed ρ.length) = true := by
  rw [List.all_eq_true]
  intro c hc
  obtain ⟨n, hn⟩ := List.getElem?_of_mem hc
  obtain ⟨a, _, q⟩ := s.at_ n c hn
  exact q.closed
theorem StoreOk.shrink {cs c' : List Cell} (s : StoreOk T (ρ ++ r) H (cs ++ c')) (hl : cs.length = ρ.length) (hc : cs.all (Cell.closed ρ.length) = true) : StoreOk T ρ H cs := by
  refine ⟨hl.symm, (List.nodup_append.mp s.nd).1, fun n c e => ?_, s.tb, fun a ha => ⟨(s.hd a ha).1, nin (s.hd a ha).2⟩, s.hx⟩
  have hn : n < cs.length := (List.getElem?_eq_some_iff.mp e).1
  obtain ⟨a, h1, h2⟩ := s.at_ n c (by rw [List.getElem?_append_left hn]; exact e)
  rw [List.getElem?_append_left (by omega)] at h1
  exact ⟨a, h1, h2.shrink (List.all_eq_true.mp hc c (List.mem_of_getElem? e))⟩
/-- behind a run with a longer store, cut back: what stands -/
theorem Ext.shrink {H1 H2 : Hp} {ρ2 : List Addr} (e1 : ∀ a, H a ≠ none → a ∉ ρ → H1 a = H a ∧ a ∉ r) (e2 : ∀ a, H1 a = none → H a = none) (h : Ext (ρ ++ r) H1 ρ2 H2) (hr : ∀ a ∈ r, H a = none) : Ext ρ H ρ H2 where
  pre := ⟨[], by simp⟩
  keepN := fun a o e t n => by
    obtain ⟨z1, z2⟩ := e1 a (by rw [e]; simp) n
    refine h.keepN a o (z1.trans e) t fun m => ?_
    rcases List.mem_append.mp m with m | m
    · exact n m
    · exact z2 m
  new := fun a m => .inl m
  gone := fun a m => by
    rcases h.gone a m with z | z
    · rcases List.mem_append.mp z with z | z
      · exact .inl z
      · exact .inr (hr a z)
    · exact .inr (e2 a z)
end
section
variable {T : Tab} {P : Prog} {call : Call} {W : WX} {X : Cx} {a b d e : Expr} {x y z : E} {pos : Pos} {σ : L2.St} {fr c : List Cell} {γ : MP.Env} {ρ : List Addr} {H : Hp}

theorem mk_run {cn f : Str} {vs : List V} {ds : List D} {Q : VK} {C x dx : Addr} {E : XK} (hC : T.cA cn = some C) (hp : P.exc cn = false) (hi : P.init cn = some (some f)) (g : Got T W σ fr γ (RQ T Q) ρ H c (noExc (mkSem P call cn ds fr.length c))) (r : RepL T ρ H vs ds)
    (hx : H x = none) (hdx : H dx = none) (hne : dx ≠ x) : spF T call f (.ref x :: vs) (upd (upd H dx (.own x)) x (.ins C dx [])) (fun v H2 => v = .non ∧ Q (.ref x) H2) E := by
  have p := g.p
  have hl : ρ.length = (fr ++ c).length := g.st.len
  have hlb : (fr ++ c).length = fr.length + c.length := List.length_append
  have hx1 : upd H dx (.own x) x = none := by rw [upd_ne hne.symm]; exact hx
  have s1 := g.st.upd (o := .own x) hdx
  have s2 : StoreOk T (ρ ++ [x]) (upd (upd H dx (.own x)) x (.ins C dx [])) ((fr ++ c) ++ [.ins cn []]) := s1.push hx1 (.ins upd_same hC .nil)
  have e1 : Ext ρ H (ρ ++ [x]) (upd (upd H dx (.own x)) x (.ins C dx [])) := (Ext.upd hdx).trans (Ext.push hx1)
  refine ⟨ρ ++ [x], fr ++ c, [.ins cn []], .ref (fr.length + c.length) :: ds, s2, (RepL.cons (.ref ?_) (r.mono e1)).A, ?_⟩
  · rw [← hlb, ← hl, List.getElem?_append_right (Nat.le_refl _), Nat.sub_self]; rfl
  have p1 : Post T fr (RQ T Q) (WS W σ) ρ H (noExc ((noExc (call f (.ref (fr.length + c.length) :: ds) (fr.length + c.length) [.ins cn []])).bind fun d c' => mkEnd (fr.length + c.length) c d c')) := by
    have : mkSem P call cn ds fr.length c = (noExc (call f (.ref (fr.length + c.length) :: ds) (fr.length + c.length) [.ins cn []])).bind fun d c' => mkEnd (fr.length + c.length) c d c' := by
      unfold mkSem
      rw [hp, hi]
    rw [this] at p
    exact p
  rw [hlb]
  cases q : call f (.ref (fr.length + c.length) :: ds) (fr.length + c.length) [.ins cn []] with
  | bad => rw [q] at p1; exact p1.elim
  | exc x fs c => rw [q] at p1; exact p1.elim
  | ok d c' =>
    rw [q] at p1
    cases d with
    | non =>
      match c', p1 with
      | [.ins cn' fs], p1 =>
        have p2 : Post T fr (RQ T Q) (WS W σ) ρ H (noExc (if closedF (fr.length + c.length) fs then .ok (.ins cn' fs) c else .bad)) := p1
        by_cases hz : closedF (fr.length + c.length) fs = true
        · rw [if_pos hz] at p2
          intro ρ2 H2 e2 st2 v rv
          cases rv
          refine ⟨rfl, ?_⟩
          obtain ⟨r2, rfl⟩ := e2.pre
          have hl2 := st2.len
          simp only [List.length_append, List.length_cons, List.length_nil] at hl2 hl
          have hr2 : r2 = [] := List.eq_nil_of_length_eq_zero (by omega)
          subst hr2
          rw [List.append_nil] at st2 e2
          obtain ⟨a, h1, h2⟩ := st2.at_ (fr ++ c).length (.ins cn' fs) (by rw [List.getElem?_append_right (Nat.le_refl _), Nat.sub_self]; rfl)
          have ea : a = x := by
            rw [hlb, ← hl, List.getElem?_append_right (Nat.le_refl _), Nat.sub_self] at h1
            exact (Option.some.inj h1).symm
          subst ea
          have hnx : Out T ρ a := g.st.none_out hx
          have hcl := g.st.closed
          have st3 : StoreOk T ρ H2 (fr ++ c) := st2.shrink g.st.len.symm hcl
          have e3 : Ext ρ H ρ H2 := by
            refine Ext.shrink (H1 := upd (upd H dx (.own a)) a (.ins C dx [])) (fun b hb n => ?_) (fun b hb => ?_) e2 (fun b hb => ?_)
            · have h1 : b ≠ a := fun z => hb (by rw [z]; exact hx)
              have h2 : b ≠ dx := fun z => hb (by rw [z]; exact hdx)
              exact ⟨by rw [upd_ne h1, upd_ne h2], by simpa using h1⟩
            · by_cases h1 : b = a
              · rw [h1]; exact hx
              · rw [upd_ne h1] at hb
                by_cases h2 : b = dx
                · rw [h2]; exact hdx
                · rw [upd_ne h2] at hb; exact hb
            · have : b = a := by simpa using hb
              rw [this]; exact hx
          refine p2 ρ H2 e3 st3 _ ?_
          rw [← hl] at hz
          cases h2 with
          | ins h k q => exact .ins h k hnx (RepF.shrink q hz)
        · rw [if_neg hz] at p2
          exact p2.elim
      | [], p1 => exact p1.elim
      | .lst _ :: _, p1 => exact p1.elim
      | .exn _ _ :: _, p1 => exact p1.elim
      | .ins _ _ :: _ :: _, p1 => exact p1.elim
    | _ => exact p1.elim
/-- C(e, ..), its defaults -/
theorem SE_mk {n cn f : Str} {p : Pos} {es : List Expr} {ys : Es} {dv : List K} {k : Nat} {C fa : Addr} {fd : FuncData} {ps : List Str} (hC : T.cA cn = some C) (hp : P.exc cn = false) (hi : P.init cn = some (some f)) (M : Mk X.K C fa) (F : FnG X T call k f fa fd ps) (hD : Dfl X T fd ps (dv.map K.toD)) (hr : RoomG (k + 1) X.A)
    (hg : Gl X n) (hm : X.mg n = some (.ref C)) (hdb : (n == ("__debug__" : Str)) = false) (hs : PA X (e :: es) (tA T W (evs P call ys))) (ns : noStar (e :: es) = true) : PE X (.Call (.Name n p) (e :: es) [] pos) (tE T W (ev P call (.mk cn ys dv))) := by
  obtain ⟨n1, n2⟩ := noStar_cons ns
  obtain ⟨dsv, dvs, hb, hd, hR⟩ := hD
  refine (pg_make M F.ok hr hg hm hb hd pass0 hs hdb (starEach_cons e es X.env n1) (noStar_any pos X.env n2)).mono fun σ H Q h => ?_
  obtain ⟨ρ, fr, c, γ, st, en, p⟩ := h
  unfold ev at p
  exact tA_mono (tA_step ⟨st, en, p⟩) fun vs H1 ⟨ρ1, c1, ds, e1, r1, g1⟩ => fun x dx hx hdx hne => mk_run hC hp hi g1 (r1.append (hR _ _)) hx hdx hne
end
end MP
end
section
set_option maxRecDepth 100000
set_option maxHeartbeats 1000000
namespace MP
open PySem PySem.Spec PyProof.Rows L2

def tyVal (T : Tab) : Ty → Option Value
  | .blt n => some (.type n)
  | .own c => (T.cA c).map .ref
def builtinTys : List String := ["NoneType", "bool", "int", "str", "tuple", "list", "dict"]
/-- what is known of an own class whose instances are asked -/
structure InsT (K : PySem.W.Frag) (C : Addr) : Prop where
  cls : Cls K C
  ha : PySem.W.findIn K (.ref C) "__class__" = some (some (.builtin "object.__class__"))
  hn : PySem.W.specialIn K (.builtin "object.__class__") "__get__" = some (some (.builtin "getset_descriptor.__get__"))
  htk : PySem.W.takesIn K (.builtin "object.__class__") = some true
  hm : PySem.W.mroIn K C (.type "object") = some true
/-- the types' facts -/
structure TyF (T : Tab) (P : Prog) : Prop where
  own : ∀ c C m, T.cA c = some C → m ∈ builtinTys → PySem.W.kitOne T.K (.type m) (.ref C) = some false
  ins : ∀ cn t r, P.below cn t = some r → ∃ C tv, T.cA cn = some C ∧ InsT T.K C ∧ tyVal T t = some tv ∧ PySem.W.kitOne T.K (.ref C) tv = some r
section
variable {T : Tab} {P : Prog} {call : Call} {W : WX} {X : Cx} {a b d e o : Expr} {x y z : E} {pos apos : Pos} {σ : L2.St} {fr c : List Cell} {γ : MP.Env} {ρ : List Addr} {H : Hp}
theorem ty_plain (F : TyF T P) {m : String} {t : Ty} {r : Bool} {tv : Value} (hm : m ∈ builtinTys) (h : tyB m t = some r) (ht : tyVal T t = some tv) : PySem.W.kitOne T.K (.type m) tv = some r := by
  cases t with
  | blt n => cases ht; exact kit_ty h
  | own c =>
    obtain ⟨C, hC, rfl⟩ := Option.map_eq_some_iff.mp ht
    cases h
    exact F.own c C m hC hm
theorem isTy_of (F : TyF T P) (st : StoreOk T ρ H (fr ++ c)) {v : V} {dd : D} (rv : Rep T ρ H v dd) {t : Ty} {r : Bool} {tv : Value} (h : isTy P fr.length c dd t = some r) (ht : tyVal T t = some tv) : ∃ u, TyX T.K H v u ∧ PySem.W.kitOne T.K u tv = some r := by
  cases rv with
  | non => exact ⟨_, .base .non, ty_plain F (by decide) h ht⟩
  | bl b => exact ⟨_, .base (.bl b), ty_plain F (by decide) h ht⟩
  | int i => exact ⟨_, .base (.int i), ty_plain F (by decide) h ht⟩
  | str s => exact ⟨_, .base (.str s), ty_plain F (by decide) h ht⟩
  | tup ha hd hn q => exact ⟨_, .fTuple ha, ty_plain F (by decide) h ht⟩
  | tupK hk q =>
    obtain ⟨o, its, n, h1, h2, _⟩ := hk
    exact ⟨_, .kTuple h1 h2, ty_plain F (by decide) h ht⟩
  | lst ha hn q => exact ⟨_, .base (.lst ha), ty_plain F (by decide) h ht⟩
  | dic ha hn q => exact ⟨_, .base (.dK ha), ty_plain F (by decide) h ht⟩
  | ins ha hC hn q =>
    obtain ⟨C, tv', h1, h2, h3, h4⟩ := F.ins _ _ _ h
    rw [hC] at h1; cases h1
    rw [ht] at h3; cases h3
    exact ⟨_, .base (.ins ha h2.cls h2.ha h2.hn h2.htk h2.hm), h4⟩
  | @ref a n hr =>
    have h1 : (match cellAt fr.length c n with
        | some (.lst _) => tyB "list" t
        | some (.ins cn _) => P.below cn t
        | _ => none) = some r := h
    cases hc : cellAt fr.length c n with
    | none => rw [hc] at h1; cases h1
    | some ce =>
      rw [hc] at h1
      obtain ⟨a', ea, _, q⟩ := Rep.cell (.ref hr) st hc
      cases ea
      cases q with
      | lst ha q => exact ⟨_, .base (.lst ha), ty_plain F (by decide) h1 ht⟩
      | ins ha hC q =>
        obtain ⟨C, tv', h1, h2, h3, h4⟩ := F.ins _ _ _ h1
        rw [hC] at h1; cases h1
        rw [ht] at h3; cases h3
        exact ⟨_, .base (.ins ha h2.cls h2.ha h2.hn h2.htk h2.hm), h4⟩
      | exn0 _ _ => cases h1
      | exn _ _ _ _ _ _ => cases h1
  | cls _ => cases h
  | fn _ => cases h
  | scr ha hn => exact ⟨_, .base (.frz ha), ty_plain F (by decide) h ht⟩
  | scrK hk =>
    obtain ⟨o, its, n, h1, h2, _⟩ := hk
    exact ⟨_, .kList h1 h2, ty_plain F (by decide) h ht⟩
/-- a type's name -/
inductive TyN (X : Cx) (T : Tab) : Expr → Ty → V → Prop where
  | blt {n : Str} {m : String} {p : Pos} (hg : Gl X n) (hm : X.mg n = none) (hv : bootBuiltins n = some (.type m)) (h1 : n ≠ "__name__") (h2 : (n == ("__debug__" : Str)) = false) : TyN X T (.Name n p) (.blt m) (.ty m)
  | own {n c : Str} {C : Addr} {p : Pos} (hg : Gl X n) (hm : X.mg n = some (.ref C)) (hC : T.cA c = some C) (h2 : (n == ("__debug__" : Str)) = false) : TyN X T (.Name n p) (.own c) (.ref C)
theorem TyN.pe {t : Ty} {v : V} (h : TyN X T b t v) : PE X b (tC v) := by
  cases h with
  | blt hg hm hv h1 h2 => exact pe_bltn hg hm hv rfl h1 h2
  | own hg hm hC h2 => exact pe_glob hg hm rfl h2
theorem TyN.val {t : Ty} {v : V} (h : TyN X T b t v) : ∃ tv, tyVal T t = some tv ∧ ClsV v tv := by
  cases h with
  | blt _ _ _ _ _ => exact ⟨_, rfl, .ty _⟩
  | own _ _ hC _ => exact ⟨_, by show Option.map _ _ = _; rw [hC]; rfl, .own _⟩
theorem TyN.plain {t : Ty} {v : V} (h : TyN X T b t v) : ∀ y q, b ≠ .Starred y q := by
  cases h <;> exact fun _ _ z => nomatch z
theorem SE_isi (hK : X.K = T.K) (F : TyF T P) {p : Pos} {t : Ty} {v : V} (hg : Gl X "isinstance") (hm : X.mg "isinstance" = none) (ha : PE X a (tE T W (ev P call x))) (hn : ∀ y q, a ≠ .Starred y q) (hb : TyN X T b t v) :
    PE X (.Call (.Name "isinstance" p) [a, b] [] pos) (tE T W (ev P call (.isi x [t]))) := by
  obtain ⟨tv, h1, h2⟩ := hb.val
  have s1 := starEach_cons a [b] X.env hn
  have s2 := starEach_cons b [] X.env hb.plain
  refine (pe_callB call_isi hg hm (by decide +kernel) (pa_cons ha (pa_cons hb.pe pa_nil s2) s1) (by decide) (by decide) s1 (by rw [s2]; rfl)).mono fun σ H Q h => ?_
  obtain ⟨ρ, fr, c, γ, st, en, p⟩ := h
  unfold ev at p
  refine tE_mono (tE_step ⟨st, en, p⟩) fun w H1 ⟨ρ1, c1, dd, e1, r1, g1⟩ => ?_
  obtain ⟨k, hk, g2⟩ := g1.opt
  obtain ⟨r, hr, rfl⟩ := Option.map_eq_some_iff.mp hk
  obtain ⟨u, hu, hq⟩ := isTy_of F g1.st r1 hr h1
  refine ⟨w, v, u, tv, r, rfl, h2, hK ▸ hu, by rw [hK]; exact hq, g2.same (.bl _)⟩

theorem tE_val {f : Evl D} {dd : D} {c1 : List Cell} {α : Type} {R : List Addr → Hp → α → Prop} {r : Res α} (st : StoreOk T ρ H (fr ++ c)) (en : EnvOk T ρ H σ γ) (hf : f γ fr.length c = .ok dd c1) (p : Post T fr R (WS W σ) ρ H r) :
    tE T W f σ H fun v H1 => ∃ ρ1, Ext ρ H ρ1 H1 ∧ Rep T ρ1 H1 v dd ∧ Got T W σ fr γ R ρ1 H1 c1 r :=
  ⟨ρ, fr, c, γ, st, en, by rw [hf]; exact fun ρ1 H1 e s v rv => ⟨ρ1, e, rv, s, en.mono e, p.later e⟩⟩
/-- what is known of own classes' attributes and methods, where X is -/
structure ObF (X : Cx) (T : Tab) (P : Prog) (call : Call) (k : Nat) : Prop where
  fld : ∀ cn f C, P.fld cn f = true → T.cA cn = some C → Cls T.K C ∧ NoAttr T.K C f
  prop : ∀ cn f q, P.prop cn f = some q → ∃ C p g fd ps, T.cA cn = some C ∧ Cls T.K C ∧ PropOf T.K C f p g ∧ FnG X T call k q g fd ps
  meth : ∀ cn m q, P.meth cn m = some q → ∃ C g fd ps, T.cA cn = some C ∧ Cls T.K C ∧ Meth T.K C m g ∧ FnG X T call k q g fd ps
theorem Rep.insOf (st : StoreOk T ρ H (fr ++ c)) {v : V} {dd : D} (r : Rep T ρ H v dd) {cn : Str} (h : classOf fr.length c dd = some cn) : ∃ a C dx vs fs, v = .ref a ∧ T.cA cn = some C ∧ H a = some (.ins C dx vs) ∧ RepF T ρ H vs fs ∧ ∀ f, fieldOf fr.length c dd f = fs.lookup f := by
  cases r with
  | ins ha hC hn q => cases h; exact ⟨_, _, _, _, _, rfl, hC, ha, q, fun _ => rfl⟩
  | @ref a n hr =>
    have h1 : (match cellAt fr.length c n with
      | some (.ins cn _) => some cn
      | _ => none) = some cn := h
    cases hc : cellAt fr.length c n with
    | none => rw [hc] at h1; cases h1
    | some ce =>
      rw [hc] at h1
      obtain ⟨a', ea, _, q⟩ := Rep.cell (.ref hr) st hc
      cases ea
      cases q with
      | lst ha q => cases h1
      | ins ha hC q =>
        cases h1
        refine ⟨_, _, _, _, _, rfl, hC, ha, q, fun f => ?_⟩
        show (match cellAt fr.length c n with
          | some (.ins _ fs) => fs.lookup f
          | _ => none) = _
        rw [hc]
      | exn0 _ _ => cases h1
      | exn _ _ _ _ _ _ => cases h1
  | _ => cases h
theorem RepF.look {vs : List (Str × V)} {fs : List (Str × D)} (r : RepF T ρ H vs fs) {f : Str} {dd : D} (h : fs.lookup f = some dd) : ∃ v, vs.lookup f = some v ∧ Rep T ρ H v dd := by
  induction fs generalizing vs with
  | nil => cases h
  | cons p fs ih =>
    cases r with
    | @cons g v vs' d' _ r1 q =>
      rw [List.lookup_cons] at h ⊢
      cases hb : (f == g) with
      | true => rw [hb] at h; cases h; exact ⟨_, rfl, r1⟩
      | false => rw [hb] at h; exact ih q h
theorem RepF.lookN {vs : List (Str × V)} {fs : List (Str × D)} (r : RepF T ρ H vs fs) {f : Str} (h : fs.lookup f = none) : vs.lookup f = none := by
  induction fs generalizing vs with
  | nil => cases r; rfl
  | cons p fs ih =>
    cases r with
    | @cons g v vs' d' _ r1 q =>
      rw [List.lookup_cons] at h ⊢
      cases hb : (f == g) with
      | true => rw [hb] at h; cases h
      | false => rw [hb] at h; exact ih q h
theorem bindOk {α β : Type} {r : Res α} {k : α → List Cell → Res β} {T : Tab} {fr : List Cell} {R : List Addr → Hp → β → Prop} {W' : Value → Option Addr → Hp → Prop} {ρ : List Addr} {H : Hp} (p : Post T fr R W' ρ H ((noExc r).bind k)) : ∃ a c, r = .ok a c := by
  cases r with
  | ok a c => exact ⟨a, c, rfl⟩
  | exc x fs c => exact p.elim
  | bad => exact p.elim
theorem SE_att (hK : X.K = T.K) {k : Nat} (F : ObF X T P call k) (hr : RoomG (k + 1) X.A) {f : Str} (ho : PE X o (tE T W (ev P call x))) (hb : attributeBase o f X.env (eval o X.env) = eval o X.env) : PE X (.Attribute o f pos) (tE T W (ev P call (.att x f))) := by
  refine ⟨fun pins s σ H Q I h => ?_⟩
  obtain ⟨ρ, fr, c, γ, st, en, p⟩ := h
  unfold ev at p
  obtain ⟨dd, c1, hx⟩ := bindOk p
  · rw [hx] at p
    have p1 : Post T fr (RQ T Q) (WS W σ) ρ H (match classOf fr.length c1 dd with
      | some cn => (match P.prop cn f with
        | some q => noExc (call q [dd] fr.length c1)
        | none => if P.fld cn f then ofOpt (fieldOf fr.length c1 dd f) c1 else .bad)
      | none => .bad) := p
    cases hc : classOf fr.length c1 dd with
    | none => rw [hc] at p1; exact p1.elim
    | some cn =>
      rw [hc] at p1
      dsimp only at p1
      cases hp : P.prop cn f with
      | some q =>
        rw [hp] at p1
        obtain ⟨C, pa, g, fd, ps, hC, cl, po, FG⟩ := F.prop cn f q hp
        refine (pg_prop ho (hK ▸ cl) (hK ▸ po) FG.ok hr FG.bd .nil pass0 hb).run pins s σ H Q I ?_
        refine tE_mono (tE_val st en hx p1) fun v H1 ⟨ρ1, e1, r1, g1⟩ => ?_
        obtain ⟨a, C', dx, vs, fs, rfl, hC', ha, hF, hl⟩ := r1.insOf g1.st hc
        rw [hC] at hC'; cases hC'
        exact ⟨a, dx, vs, rfl, ha, spF_same g1 (.cons r1 .nil)⟩
      | none =>
        rw [hp] at p1
        cases hf : P.fld cn f with
        | false => rw [hf] at p1; exact p1.elim
        | true =>
          rw [hf] at p1
          refine (pe_fld ho hb).run pins s σ H Q I ?_
          refine tE_mono (tE_val st en hx p1) fun v H1 ⟨ρ1, e1, r1, g1⟩ => ?_
          obtain ⟨a, C', dx, vs, fs, rfl, hC', ha, hF, hl⟩ := r1.insOf g1.st hc
          obtain ⟨cl, na⟩ := F.fld cn f C' hf hC'
          have g2 : Got T W σ fr γ (RQ T Q) ρ1 H1 c1 (ofOpt (fieldOf fr.length c1 dd f) c1) := g1
          obtain ⟨d2, hd, g3⟩ := g2.opt
          rw [hl f] at hd
          obtain ⟨w, hw, rw'⟩ := hF.look hd
          exact ⟨a, C', dx, vs, w, rfl, ha, hK ▸ cl, hK ▸ na, hw, g3.same rw'⟩
/-- o.m(e, ..), o an instance or a built-in's value: the two ways -/
theorem SE_mth {k : Nat} (hK : X.K = T.K) (F : ObF X T P call k) (hr : RoomG k X.A) {m : Str} {es : List Expr} {ys : Es} (ho : PE X o (tE T W (ev P call x))) (hs : PA X (e :: es) (tA T W (evs P call ys))) (ns : noStar (e :: es) = true) {pl : Sem Bool}
    (ht : eval (.Call (.Attribute o m apos) (e :: es) [] pos) X.env = (do
      let ov ← eval o X.env
      standAt apos.atName
      let (f, first) ← holding [ov] (getMethod ov m pl)
      callWith pos f first (backTo pos (starEach (e :: es) X.env)) (backToKw pos (keywordEach [] X.env))))
    : PE X (.Call (.Attribute o m apos) (e :: es) [] pos) (tE T W (ev P call (.mth x m ys))) := by
  obtain ⟨n1, n2⟩ := noStar_cons ns
  refine ⟨fun pins s σ H Q I h => ?_⟩
  obtain ⟨ρ, fr, c, γ, st, en, p⟩ := h
  unfold ev at p
  obtain ⟨dd, c1, hx⟩ := bindOk p
  · rw [hx] at p
    have p1 : Post T fr (RQ T Q) (WS W σ) ρ H (match classOf fr.length c1 dd with
      | some cn => (match P.meth cn m with
        | some q => if (fieldOf fr.length c1 dd m).isNone then (evs P call ys γ fr.length c1).bind fun ds c => noExc (call q (dd :: ds) fr.length c) else .bad
        | none => .bad)
      | none => .bad) := p
    cases hc : classOf fr.length c1 dd with
    | none =>
      rw [hc] at p1
      exact p1.elim
    | some cn =>
      rw [hc] at p1
      dsimp only at p1
      cases hp : P.meth cn m with
      | none => rw [hp] at p1; exact p1.elim
      | some q =>
        rw [hp] at p1
        obtain ⟨C, g, fd, ps, hC, cl, me, FG⟩ := F.meth cn m q hp
        cases hn : fieldOf fr.length c1 dd m with
        | some _ => rw [hn] at p1; exact p1.elim
        | none =>
          rw [hn] at p1
          have p2 : Post T fr (RQ T Q) (WS W σ) ρ H ((evs P call ys γ fr.length c1).bind fun ds c => noExc (call q (dd :: ds) fr.length c)) := p1
          refine (pg_meth (pl := pl) ho (hK ▸ cl) (hK ▸ me) FG.ok hr FG.bd .nil pass0 hs (starEach_cons e es X.env n1) (noStar_any pos X.env n2) ht).run pins s σ H Q I ?_
          refine tE_mono (tE_val st en hx p2) fun v H1 ⟨ρ1, e1, r1, g1⟩ => ?_
          obtain ⟨a, C', dx, vs, fs, rfl, hC', ha, hF, hl⟩ := r1.insOf g1.st hc
          rw [hC] at hC'; cases hC'
          refine ⟨a, dx, vs, rfl, ha, hF.lookN (by rw [← hl m]; exact hn), ?_⟩
          refine tA_mono (tA_step g1) fun ws H2 ⟨ρ2, c2, ds, e2, r2, g2⟩ => ?_
          rw [List.append_nil]
          exact spF_same g2 (.cons (r1.mono e2) r2)
/-- o.m(), o an instance -/
theorem SE_mth0 {k : Nat} (hK : X.K = T.K) (F : ObF X T P call k) (hr : RoomG k X.A) {m : Str} (ho : PE X o (tE T W (ev P call x))) {pl : Sem Bool}
    (ht : eval (.Call (.Attribute o m apos) [] [] pos) X.env = (do
      let ov ← eval o X.env
      standAt apos.atName
      let (f, first) ← holding [ov] (getMethod ov m pl)
      callWith pos f first (backTo pos (starEach [] X.env)) (backToKw pos (keywordEach [] X.env))))
    : PE X (.Call (.Attribute o m apos) [] [] pos) (tE T W (ev P call (.mth x m .nil))) := by
  refine ⟨fun pins s σ H Q I h => ?_⟩
  obtain ⟨ρ, fr, c, γ, st, en, p⟩ := h
  unfold ev at p
  obtain ⟨dd, c1, hx⟩ := bindOk p
  rw [hx] at p
  have p1 : Post T fr (RQ T Q) (WS W σ) ρ H (match classOf fr.length c1 dd with
    | some cn => (match P.meth cn m with
      | some q => if (fieldOf fr.length c1 dd m).isNone then (evs P call .nil γ fr.length c1).bind fun ds c => noExc (call q (dd :: ds) fr.length c) else .bad
      | none => .bad)
    | none => .bad) := p
  cases hc : classOf fr.length c1 dd with
  | none => rw [hc] at p1; exact p1.elim
  | some cn =>
    rw [hc] at p1
    dsimp only at p1
    cases hp : P.meth cn m with
    | none => rw [hp] at p1; exact p1.elim
    | some q =>
      rw [hp] at p1
      obtain ⟨C, g, fd, ps, hC, cl, me, FG⟩ := F.meth cn m q hp
      cases hn : fieldOf fr.length c1 dd m with
      | some _ => rw [hn] at p1; exact p1.elim
      | none =>
        rw [hn] at p1
        have p2 : Post T fr (RQ T Q) (WS W σ) ρ H (noExc (call q [dd] fr.length c1)) := by
          have p3 : Post T fr (RQ T Q) (WS W σ) ρ H ((evs P call .nil γ fr.length c1).bind fun ds c => noExc (call q (dd :: ds) fr.length c)) := p1
          unfold evs at p3
          exact p3
        refine (pg_meth0 (pl := pl) ho (hK ▸ cl) (hK ▸ me) FG.ok hr FG.bd .nil pass0 ht).run pins s σ H Q I ?_
        refine tE_mono (tE_val st en hx p2) fun v H1 ⟨ρ1, e1, r1, g1⟩ => ?_
        obtain ⟨a, C', dx, vs, fs, rfl, hC', ha, hF, hl⟩ := r1.insOf g1.st hc
        rw [hC] at hC'; cases hC'
        exact ⟨a, dx, vs, rfl, ha, hF.lookN (by rw [← hl m]; exact hn), spF_same (E := E0) g1 (.cons r1 .nil)⟩
end
end MP
end
section
set_option maxRecDepth 100000
set_option maxHeartbeats 1000000
namespace MP
open PySem PySem.Spec PyProof.Rows L2
section
variable {T : Tab} {ρ : List Addr} {H : Hp}
theorem pick_cons {α : Type} (i : Nat) (ix : List Nat) (xs : List α) : pick (i :: ix) xs = match xs[i]? with
    | some x => x :: pick ix xs
    | none => pick ix xs := by
  unfold pick
  cases h : xs[i]? with
  | none => rw [List.filterMap_cons_none h]
  | some x => rw [List.filterMap_cons_some h]
theorem Vals.at {vs : List V} {us : List Value} (r : Vals vs us) (i : Nat) : (vs[i]? = none ∧ us[i]? = none) ∨ ∃ v u, vs[i]? = some v ∧ us[i]? = some u ∧ RelV v u := by
  cases h : vs[i]? with
  | none =>
    refine .inl ⟨rfl, ?_⟩
    have := List.getElem?_eq_none_iff.mp h
    exact List.getElem?_eq_none_iff.mpr (by rw [← r.length]; exact this)
  | some v =>
    obtain ⟨u, h1, h2⟩ := r.get h
    exact .inr ⟨v, u, rfl, h1, h2⟩
theorem vals_pick {vs : List V} {us : List Value} (r : Vals vs us) : ∀ ix : List Nat, Vals (pick ix vs) (pick ix us)
  | [] => .nil
  | i :: ix => by
    rw [pick_cons, pick_cons]
    rcases Vals.at r i with ⟨h1, h2⟩ | ⟨v, u, h1, h2, h3⟩
    · rw [h1, h2]; exact vals_pick r ix
    · rw [h1, h2]; exact .cons h3 (vals_pick r ix)
theorem RepL.pick {vs : List V} {ds : List D} (r : RepL T ρ H vs ds) : ∀ ix : List Nat, RepL T ρ H (MP.pick ix vs) (MP.pick ix ds)
  | [] => .nil
  | i :: ix => by
    rw [pick_cons, pick_cons]
    cases h : ds[i]? with
    | none =>
      have h2 : vs[i]? = none := List.getElem?_eq_none_iff.mpr (by rw [r.length]; exact List.getElem?_eq_none_iff.mp h)
      rw [h2]; exact RepL.pick r ix
    | some d =>
      obtain ⟨v, h1, h2⟩ := r.get h
      rw [h1]; exact .cons h2 (RepL.pick r ix)
theorem pick_tail {α : Type} (x : α) (xs : List α) : ∀ ix : List Nat, ix.all (· != 0) = true → pick ix (x :: xs) = pick (ix.map (· - 1)) xs
  | [], _ => rfl
  | i :: ix, h => by
    rw [List.all_cons, Bool.and_eq_true] at h
    rw [pick_cons, List.map_cons, pick_cons]
    cases i with
    | zero => cases h.1
    | succ j =>
      rw [List.getElem?_cons_succ, pick_tail x xs ix h.2]
      rfl
end
/-- how a call with n positional arguments and the keywords ks binds: ix tells where each parameter's value lies; dus the defaults -/
structure KArr (K : PySem.W.Frag) (fd : FuncData) (ps : List Str) (n : Nat) (ks : List Str) (ix : List Nat) (dus : List Value) : Prop where
  to : ∀ (s : Shared) (us ws : List Value), K.In s.heap → us.length = n → ws.length = ks.length → BindsTo s fd ⟨us, ks.zip ws⟩ (ps.zip (pick ix (us ++ (ws ++ dus))))
structure KwD (K : PySem.W.Frag) (T : Tab) (P : Prog) (q : Str) (fd : FuncData) (ps : List Str) : Prop where
  at_ : ∀ n ks ix dv, P.kw q n ks = some (ix, dv) → ∃ dus dvs, KArr K fd ps n ks ix dus ∧ Vals dvs dus ∧ ∀ h ρ H, RepL (T.hide h) ρ H dvs dv
theorem KwD.hide {K : PySem.W.Frag} {T : Tab} {P : Prog} {q : Str} {fd : FuncData} {ps : List Str} (F : KwD K T P q fd ps) (h : List Addr) : KwD K (T.hide h) P q fd ps := ⟨fun n ks ix dv e => F.at_ n ks ix dv e⟩
def kwNames : List Keyword → Option (List Str)
  | [] => some []
  | ⟨some n, _, _⟩ :: r => (kwNames r).map (n :: ·)
  | _ :: _ => none
theorem kw_forms (pos : Pos) (env : PySem.Env) : ∀ {kws : List Keyword} {ks : List Str}, kwNames kws = some ks → (backToKw pos (keywordEach kws env)).all (·.1.isSome) = true ∧ (backToKw pos (keywordEach kws env)).filterMap (·.1) = ks ∧ (backToKw pos (keywordEach kws env)).any (·.1.isNone) = false
  | [], ks, h => by cases h; exact ⟨rfl, rfl, rfl⟩
  | ⟨some n, e, p⟩ :: r, ks, h => by
    obtain ⟨ks', h1, rfl⟩ := Option.map_eq_some_iff.mp (show (kwNames r).map (n :: ·) = some ks from h)
    obtain ⟨a1, a2, a3⟩ := kw_forms pos env h1
    refine ⟨?_, ?_, ?_⟩
    · show (true && (backToKw pos (keywordEach r env)).all (·.1.isSome)) = true
      rw [a1]; rfl
    · show n :: (backToKw pos (keywordEach r env)).filterMap (·.1) = _
      rw [a2]
    · show (false || (backToKw pos (keywordEach r env)).any (·.1.isNone)) = false
      rw [a3]; rfl
  | ⟨none, _, _⟩ :: _, _, h => by cases h
section
variable {T : Tab} {P : Prog} {call : Call} {W : WX} {X : Cx} {a b d e o : Expr} {x y z : E} {pos apos : Pos} {σ : L2.St} {fr c : List Cell} {γ : MP.Env} {ρ : List Addr} {H : Hp}
theorem SK_nil : PK X [] (tA T W (evs P call .nil)) :=
  ⟨fun pos pins s σ H Q I ⟨ρ, fr, c, γ, st, en, p⟩ => pk_nil.run pos pins s σ H Q I (p ρ H (Ext.refl ρ H) st _ .nil)⟩
theorem SK_cons {nm : Option Str} {kpos : Pos} {kws : List Keyword} {ys : Es} (ha : PE X e (tE T W (ev P call x))) (hs : PK X kws (tA T W (evs P call ys))) : PK X (⟨nm, e, kpos⟩ :: kws) (tA T W (evs P call (.cons x ys))) := by
  refine ⟨fun pos pins s σ H Q I h => (pk_cons ha hs).run pos pins s σ H Q I ?_⟩
  obtain ⟨ρ, fr, c, γ, st, en, p⟩ := h
  unfold evs at p
  refine tE_mono (tE_step ⟨st, en, p⟩) fun v H1 ⟨ρ1, c1, d, e1, r1, g1⟩ => ?_
  refine tA_mono (tA_step g1) fun vs H2 ⟨ρ2, c2, ds, e2, r2, g2⟩ => ?_
  exact g2.p ρ2 H2 (Ext.refl _ _) g2.st _ (.cons (r1.mono e2) r2)
/-- as many values as codes -/
theorem evs_len : ∀ {ys : Es} {γ : MP.Env} {b : Nat} {c c' : List Cell} {ds : List D}, evs P call ys γ b c = .ok ds c' → ds.length = ys.len
  | .nil, _, _, _, _, _, h => by unfold evs at h; cases h; rfl
  | .cons e es, γ, b, c, c', ds, h => by
    unfold evs at h
    cases h1 : ev P call e γ b c with
    | bad => rw [h1] at h; cases h
    | exc _ _ _ => rw [h1] at h; cases h
    | ok d c1 =>
      rw [h1] at h
      have h' : ((evs P call es γ b c1).bind fun ds c => .ok (d :: ds) c) = .ok ds c' := h
      cases h2 : evs P call es γ b c1 with
      | bad => rw [h2] at h'; cases h'
      | exc _ _ _ => rw [h2] at h'; cases h'
      | ok ds' c2 =>
        rw [h2] at h'
        cases h'
        show ds'.length + 1 = es.len + 1
        rw [evs_len h2]
theorem tA_stepN {α : Type} {R : List Addr → Hp → α → Prop} {ys : Es} {k : List D → List Cell → Res α} (g : Got T W σ fr γ R ρ H c ((evs P call ys γ fr.length c).bind k)) :
    tA T W (evs P call ys) σ H fun xs H1 => ∃ ρ1 c1 ds, ds.length = ys.len ∧ Ext ρ H ρ1 H1 ∧ RepL T ρ1 H1 xs ds ∧ Got T W σ fr γ R ρ1 H1 c1 (k ds c1) :=
  ⟨ρ, fr, c, γ, g.st, g.en, g.p.bind.imp fun ρ1 H1 d _ ⟨c1, e, s, he, q⟩ v r => ⟨ρ1, c1, d, evs_len he, e, r, s, g.en.mono e, q⟩⟩
/-- the arguments of a call with keywords -/
theorem argsK {f : Value} {first : List Value} {es : List Expr} {kws : List Keyword} {ks : List Str} {tk : TA} {ys : Es} {pins : List (Addr × Obj)} {s : Shared} {Q : VK} {fr0 c0 : List Cell} (I : Inv X pins σ H s) (hk : PySem.W.keepIn X.K f = true) (ha : PA X es (tA T W (evs P call ys))) (he : es = [] → ys = .nil) (hkw : PK X kws tk) (ns : noStar es = true) (hn : kwNames kws = some ks)
    (h0 : StoreOk T ρ H (fr ++ c)) (h : tA T W (evs P call ys) σ H fun vs H1 => tk σ H1 fun zs H2 => ∀ (s2 : Shared) (us ws : List Value), Inv X pins σ H2 s2 → Vals vs us → Vals zs ws → wpAny (model X.prog X.w) X.A (PySem.call f (first ++ us) (ks.zip ws)) (EP X pins σ Q) X.xe s2) :
    wpAny (model X.prog X.w) X.A (callWith pos f first (backTo pos (starEach es X.env)) (backToKw pos (keywordEach kws X.env))) (EP X pins σ Q) X.xe s := by
  obtain ⟨f1, f2, f3⟩ := kw_forms pos X.env hn
  cases es with
  | nil =>
    obtain rfl := he rfl
    obtain ⟨ρ, fr, c, γ, st, en, p⟩ := h
    have q : tk σ H fun zs H2 => ∀ (s2 : Shared) (us ws : List Value), Inv X pins σ H2 s2 → Vals [] us → Vals zs ws → wpAny (model X.prog X.w) X.A (PySem.call f (first ++ us) (ks.zip ws)) (EP X pins σ Q) X.xe s2 := by
      unfold evs at p
      exact p ρ H (Ext.refl _ _) st [] .nil
    refine PySem.W.callWith_KW0 (h₀ := X.base) I.ok.mod.kin hk f1 (thn (hkw.run pos pins s σ H _ I q) fun ws s2 z => ?_) (by rw [f3]; rfl)
    obtain ⟨zs, H2, I2, rz, q2⟩ := z
    rw [f2]
    exact ⟨I2.kIn, q2 s2 [] ws I2 .nil rz⟩
  | cons e es =>
    obtain ⟨n1, n2⟩ := noStar_cons ns
    refine PySem.W.callWith_KW (h₀ := X.base) I.ok.mod.kin hk f1 (thn (ha.run pos pins s σ H _ I h) fun us s1 z => ?_) (by rw [f3, noStar_any pos X.env ns]; rfl) (starEach_cons e es X.env n1)
    obtain ⟨vs, H1, I1, rv, q⟩ := z
    refine thn (hkw.run pos pins s1 σ H1 _ I1 q) fun ws s2 z => ?_
    obtain ⟨zs, H2, I2, rz, q2⟩ := z
    rw [f2]
    exact ⟨I2.kIn, q2 s2 us ws I2 rv rz⟩
/-- f(e, .., k = v, ..) -/
theorem SE_callk {n f : Str} {p : Pos} {es : List Expr} {kws : List Keyword} {ys zs : Es} {nn : List Str} {k : Nat} {fa : Addr} {fd : FuncData} {ps : List Str} (F : FnG X T call k f fa fd ps) (KW : KwD X.K T P f fd ps) (hh : T.hide T.hid = T) (hr : RoomG k X.A) (hg : Gl X n) (hm : X.mg n = some (.ref fa)) (hdb : (n == ("__debug__" : Str)) = false)
    (hs : PA X es (tA T W (evs P call ys))) (hsk : PK X kws (tA T W (evs P call zs))) (he : es = [] → ys = .nil) (hz : zs.len = nn.length) (ns : noStar es = true) (hn : kwNames kws = some nn) : PE X (.Call (.Name n p) es kws pos) (tE T W (ev P call (.callk f ys zs nn))) := by
  refine ⟨fun pins s σ H Q I h => wpAny_Call_Name_kw (ld_glob I hg hm ?_ hdb)⟩
  obtain ⟨ρ, fr, c, γ, st, en, p⟩ := h
  unfold ev at p
  cases hq : P.kw f ys.len nn with
  | none => rw [hq] at p; exact p.elim
  | some z =>
    obtain ⟨ix, dv⟩ := z
    rw [hq] at p
    have p1 : Post T fr (RQ T Q) (WS W σ) ρ H ((evs P call ys γ fr.length c).bind fun ds c => (evs P call zs γ fr.length c).bind fun ws c => noExc (call f (pick ix (ds ++ (ws ++ dv))) fr.length c)) := p
    obtain ⟨dus, dvs, ka, vd, rd⟩ := KW.at_ _ _ _ _ hq
    refine argsK (first := []) (c0 := []) (fr0 := []) I F.kp hs he hsk ns hn st ?_
    refine tA_mono (tA_stepN ⟨st, en, p1⟩) fun vs H1 ⟨ρ1, c1, ds, l1, e1, r1, g1⟩ => ?_
    refine tA_mono (tA_stepN g1) fun vs2 H2 ⟨ρ2, c2, ws, l2, e2, r2, g2⟩ => fun s2 us wus I2 rv rz => ?_
    have all : Vals (vs ++ (vs2 ++ dvs)) (us ++ (wus ++ dus)) := rv.append (rz.append vd)
    refine goG F.ok hr pass0 I2 (ka.to s2 us wus I2.kIn ?_ ?_) (vals_pick all ix) (spF_same (E := E0) g2 (RepL.pick ((r1.mono e2).append (r2.append (hh ▸ rd T.hid ρ2 H2))) ix))
    · rw [← rv.length, r1.length, l1]
    · rw [← rz.length, r2.length, l2, hz]
/-- C(e, .., k = v, ..) -/
theorem SE_mkk {n cn f : Str} {p : Pos} {es : List Expr} {kws : List Keyword} {ys zs : Es} {nn : List Str} {k : Nat} {C fa : Addr} {fd : FuncData} {ps : List Str} (hC : T.cA cn = some C) (hp : P.exc cn = false) (hi : P.init cn = some (some f)) (M : Mk X.K C fa) (F : FnG X T call k f fa fd ps) (KW : KwD X.K T P f fd ps) (hh : T.hide T.hid = T) (hr : RoomG (k + 1) X.A)
    (hg : Gl X n) (hm : X.mg n = some (.ref C)) (hdb : (n == ("__debug__" : Str)) = false)
    (hs : PA X es (tA T W (evs P call ys))) (hsk : PK X kws (tA T W (evs P call zs))) (he : es = [] → ys = .nil) (hz : zs.len = nn.length) (ns : noStar es = true) (hn : kwNames kws = some nn) : PE X (.Call (.Name n p) es kws pos) (tE T W (ev P call (.mkk cn ys zs nn))) := by
  refine ⟨fun pins s σ H Q I h => wpAny_Call_Name_kw (ld_glob I hg hm ?_ hdb)⟩
  obtain ⟨ρ, fr, c, γ, st, en, p⟩ := h
  unfold ev at p
  rw [hi] at p
  dsimp only at p
  cases hq : P.kw f (ys.len + 1) nn with
  | none => rw [hq] at p; exact p.elim
  | some z =>
    obtain ⟨ix0, dv⟩ := z
    rw [hq] at p
    match ix0, hq, p with
    | [], hq, p => exact p.elim
    | (_ + 1) :: _, hq, p => exact p.elim
    | 0 :: ix, hq, p =>
      have p0 : Post T fr (RQ T Q) (WS W σ) ρ H (if ix.all (· != 0) then (evs P call ys γ fr.length c).bind fun ds c => (evs P call zs γ fr.length c).bind fun ws c => noExc (mkSem P call cn (pick (ix.map (· - 1)) (ds ++ (ws ++ dv))) fr.length c) else .bad) := p
      by_cases hix : ix.all (· != 0) = true
      · rw [if_pos hix] at p0
        obtain ⟨dus, dvs, ka, vd, rd⟩ := KW.at_ _ _ _ _ hq
        refine argsK (first := []) (c0 := []) (fr0 := []) I M.kp hs he hsk ns hn st ?_
        refine tA_mono (tA_stepN ⟨st, en, p0⟩) fun vs H1 ⟨ρ1, c1, ds, l1, e1, r1, g1⟩ => ?_
        refine tA_mono (tA_stepN g1) fun vs2 H2 ⟨ρ2, c2, ws, l2, e2, r2, g2⟩ => fun s2 us wus I2 rv rz => ?_
        have all : Vals (vs ++ (vs2 ++ dvs)) (us ++ (wus ++ dus)) := rv.append (rz.append vd)
        have rr := RepL.pick ((r1.mono e2).append (r2.append (hh ▸ rd T.hid ρ2 H2))) (ix.map (· - 1))
        refine mkG (ws := pick (ix.map (· - 1)) (us ++ (wus ++ dus))) M F.ok hr pass0 I2 (fun s' y ki => ?_) (vals_pick all _) fun y dx hy hdx hne => mk_run hC hp hi g2 rr hy hdx hne
        have b := ka.to s' (.ref y :: us) wus ki (by rw [List.length_cons, ← rv.length, r1.length, l1]) (by rw [← rz.length, r2.length, l2, hz])
        have e : pick (0 :: ix) (.ref y :: us ++ (wus ++ dus)) = .ref y :: pick (ix.map (· - 1)) (us ++ (wus ++ dus)) := by
          rw [pick_cons]
          show Value.ref y :: pick ix (.ref y :: (us ++ (wus ++ dus))) = _
          rw [pick_tail _ _ _ hix]
        rw [e] at b
        exact b
      · rw [if_neg hix] at p0
        exact p0.elim
/-- the methods' keywords -/
def KwG (X : Cx) (T : Tab) (P : Prog) (call : Call) (k : Nat) : Prop := ∀ cn m q, P.meth cn m = some q → ∃ C g fd ps, T.cA cn = some C ∧ Cls T.K C ∧ Meth T.K C m g ∧ FnG X T call k q g fd ps ∧ KwD X.K T P q fd ps
/-- o.m(e, .., k = v, ..) -/
theorem SE_mthk {k : Nat} (hK : X.K = T.K) (F : KwG X T P call k) (hh : T.hide T.hid = T) (hr : RoomG k X.A) {m : Str} {es : List Expr} {kws : List Keyword} {ys zs : Es} {nn : List Str} (ho : PE X o (tE T W (ev P call x))) (hs : PA X es (tA T W (evs P call ys))) (hsk : PK X kws (tA T W (evs P call zs))) (he : es = [] → ys = .nil) (hz : zs.len = nn.length) (ns : noStar es = true) (hn : kwNames kws = some nn) {pl : Sem Bool}
    (ht : eval (.Call (.Attribute o m apos) es kws pos) X.env = (do
      let ov ← eval o X.env
      standAt apos.atName
      let (f, first) ← holding [ov] (getMethod ov m pl)
      callWith pos f first (backTo pos (starEach es X.env)) (backToKw pos (keywordEach kws X.env)))) : PE X (.Call (.Attribute o m apos) es kws pos) (tE T W (ev P call (.mthk x m ys zs nn))) := by
  refine ⟨fun pins s σ H Q I h => ?_⟩
  obtain ⟨ρ, fr, c, γ, st, en, p⟩ := h
  unfold ev at p
  obtain ⟨dd, c1, hx⟩ := bindOk p
  rw [hx] at p
  have p1 : Post T fr (RQ T Q) (WS W σ) ρ H (match classOf fr.length c1 dd with
    | some cn => (match P.meth cn m with
      | some q => (match P.kw q (ys.len + 1) nn with
        | some (ix, dv) => if (fieldOf fr.length c1 dd m).isNone then (evs P call ys γ fr.length c1).bind fun ds c => (evs P call zs γ fr.length c).bind fun ws c => noExc (call q (pick ix (dd :: ds ++ (ws ++ dv))) fr.length c) else .bad
        | none => .bad)
      | none => .bad)
    | none => .bad) := p
  cases hc : classOf fr.length c1 dd with
  | none => rw [hc] at p1; exact p1.elim
  | some cn =>
    rw [hc] at p1
    dsimp only at p1
    cases hp : P.meth cn m with
    | none => rw [hp] at p1; exact p1.elim
    | some q =>
      rw [hp] at p1
      dsimp only at p1
      obtain ⟨C, g, fd, ps, hC, cl, me, FG, KW⟩ := F cn m q hp
      cases hq : P.kw q (ys.len + 1) nn with
      | none => rw [hq] at p1; exact p1.elim
      | some z =>
        obtain ⟨ix, dv⟩ := z
        rw [hq] at p1
        dsimp only at p1
        cases hnn : fieldOf fr.length c1 dd m with
        | some _ => rw [hnn] at p1; exact p1.elim
        | none =>
          rw [hnn] at p1
          have p2 : Post T fr (RQ T Q) (WS W σ) ρ H ((evs P call ys γ fr.length c1).bind fun ds c => (evs P call zs γ fr.length c).bind fun ws c => noExc (call q (pick ix (dd :: ds ++ (ws ++ dv))) fr.length c)) := p1
          obtain ⟨dus, dvs, ka, vd, rd⟩ := KW.at_ _ _ _ _ hq
          refine PySem.W.methodCall_KW (pl := pl) (thn (ho.run pins s σ H _ I (tE_val st en hx p2)) fun u s1 z => ?_) ht
          obtain ⟨v, H1, I1, ru, ρ1, e1, r1, g1⟩ := z
          obtain ⟨a, C', dx, vs0, fs, rfl, hC', ha, hF, hl⟩ := r1.insOf g1.st hc
          rw [hC] at hC'; cases hC'
          cases (show u = Value.ref a from ru)
          refine getmeth_ok I1 ha (hK ▸ cl) (hK ▸ me) (hF.lookN (by rw [← hl m]; exact hnn)) ?_
          refine argsK (first := [.ref a]) (c0 := []) (fr0 := []) I1 (by have := me.kp; rw [← hK] at this; exact this) hs he hsk ns hn g1.st ?_
          refine tA_mono (tA_stepN g1) fun vs H2 ⟨ρ2, c2, ds, l1, e2, r2, g2⟩ => ?_
          refine tA_mono (tA_stepN g2) fun vs2 H3 ⟨ρ3, c3, ws, l2, e3, r3, g3⟩ => fun s2 us wus I2 rv rz => ?_
          have self : Vals (V.ref a :: vs) (Value.ref a :: us) := .cons rfl rv
          have all : Vals (V.ref a :: vs ++ (vs2 ++ dvs)) (Value.ref a :: us ++ (wus ++ dus)) := self.append (rz.append vd)
          have rs : RepL T ρ3 H3 (V.ref a :: vs) (dd :: ds) := .cons ((r1.mono e2).mono e3) (r2.mono e3)
          refine goG FG.ok hr pass0 I2 (ka.to s2 (.ref a :: us) wus I2.kIn ?_ ?_) (vals_pick all ix) (spF_same (E := E0) g3 (RepL.pick (rs.append (r3.append (hh ▸ rd T.hid ρ3 H3))) ix))
          · rw [List.length_cons, ← rv.length, r2.length, l1]
          · rw [← rz.length, r3.length, l2, hz]
structure Mk0 (K : PySem.W.Frag) (C : Addr) : Prop where
  makes : PySem.W.makesIn K C = true
  init : PySem.W.findIn K (.ref C) "__init__" = some (some (.builtin "object.__init__"))
  kp : PySem.W.keepIn K (.ref C) = true
theorem go0 {C : Addr} {pins : List (Addr × Obj)} {s : Shared} {Q : VK} (M : Mk0 X.K C) (I : Inv X pins σ H s) (h : ∀ y dx, H y = none → H dx = none → dx ≠ y → Q (.ref y) (L2.upd (L2.upd H dx (.own y)) y (.ins C dx []))) :
    wpAny (model X.prog X.w) X.A (PySem.call (.ref C) []) (EP X pins σ Q) X.xe s := by
  have q := h (s.heap.objs.size + 1) s.heap.objs.size (I.hok.fresh (Nat.le_succ _)) (I.hok.fresh (Nat.le_refl _)) (Nat.ne_of_lt (Nat.lt_succ_self _))
  have J := Inv.made (C := C) I
  have Y := PySem.W.makes_of (M := model X.prog X.w) I.kIn M.makes
  have at1 : ((s.heap.push PySem.W.emptyDict).push (PySem.W.instObj C s.heap.objs.size)).get? (s.heap.objs.size + 1) = some (PySem.W.instObj C s.heap.objs.size) := by
    have z := Heap.get?_push_size (s.heap.push PySem.W.emptyDict) (o := PySem.W.instObj C s.heap.objs.size) rfl
    rwa [Heap.size_push] at z
  have t1 : PySem.W.Looks (model X.prog X.w) ((s.heap.push PySem.W.emptyDict).push (PySem.W.instObj C s.heap.objs.size)) (typeOf (.ref (s.heap.objs.size + 1))) (.ref C) := (PySem.W.Looks.ld at1).andThen .now
  have t0 : PySem.W.Looks (model X.prog X.w) ((s.heap.push PySem.W.emptyDict).push (PySem.W.instObj C s.heap.objs.size)) (isSubtype (.ref C) (.type "object")) true := Y.top.keeps fun b o e => Heap.get?_push_of_some _ (Heap.get?_push_of_some _ e)
  have t2 : PySem.W.Looks (model X.prog X.w) ((s.heap.push PySem.W.emptyDict).push (PySem.W.instObj C s.heap.objs.size)) (isInstance (.ref (s.heap.objs.size + 1)) (.type "object")) true := t1.andThen t0
  refine wpAny_call (make_map0 I.kIn M.makes M.init (fun self => PySem.W.Looks.of_pure (PySem.W.oi_bind self)) ?_)
  refine codeAny_call_builtin PySem.W.oi_plain PySem.W.entry_oi (@PySem.W.check_slot (model X.prog X.w) _ _ _ "object.__init__" "object" "__init__" (.ref (s.heap.objs.size + 1)) [] [] _ PySem.W.oi_kind PySem.W.oi_split t2 (PySem.W.oi_args _) ?_)
  rw [PySem.W.oi_run]
  exact wpAny_pure ⟨rfl, V.ref (s.heap.objs.size + 1), _, J, rfl, q⟩
/-- C() -/
theorem SE_mk0 {n cn : Str} {p : Pos} {C : Addr} (hC : T.cA cn = some C) (hp : P.exc cn = false) (hi : P.init cn = some none) (M : Mk0 X.K C) (hg : Gl X n) (hm : X.mg n = some (.ref C)) (hdb : (n == ("__debug__" : Str)) = false) : PE X (.Call (.Name n p) [] [] pos) (tE T W (ev P call (.mk cn .nil []))) := by
  refine ⟨fun pins s σ H Q I h => wpAny_Call_Name_kw (ld_glob I hg hm (PySem.W.callWith_K0 I.kIn M.kp (go0 M I ?_)) hdb)⟩
  obtain ⟨ρ, fr, c, γ, st, en, p⟩ := h
  intro y dx hy hdx hne
  have p1 : Post T fr (RQ T Q) (WS W σ) ρ H (.ok (.ins cn []) c) := by
    unfold ev evs mkSem at p
    rw [hp, hi] at p
    exact p
  have hy1 : L2.upd H dx (.own y) y = none := by rw [upd_ne hne.symm]; exact hy
  refine p1 ρ _ ((Ext.upd hdx).trans (Ext.upd hy1)) ((st.upd hdx).upd hy1) _ (.ins (upd_same (H := L2.upd H dx (.own y))) hC (st.none_out hy) .nil)
end
end MP
end
section
set_option maxRecDepth 100000
set_option maxHeartbeats 1000000
namespace MP
open PySem PySem.Spec PyProof.Rows L2

abbrev W0 : WX := fun _ _ _ _ => False
/-- what is wanted behind a statement, by data -/
def RFl (T : Tab) (D : Ends) : List Addr → Hp → Fl → Prop := fun ρ H fl => match fl with
  | .nx γ => ∀ σ, EnvOk T ρ H σ γ → D.nx σ H
  | .bk γ => ∀ σ, EnvOk T ρ H σ γ → D.bk σ H
  | .ct γ => ∀ σ, EnvOk T ρ H σ γ → D.ct σ H
  | .rt d => ∀ v, Rep T ρ H v d → D.rt v H
def tS (T : Tab) (f : Evl Fl) : TS := fun D σ H => ∃ ρ fr c γ, StoreOk T ρ H (fr ++ c) ∧ EnvOk T ρ H σ γ ∧ Post T fr (RFl T D) NoW ρ H (f γ fr.length c)
section
variable {T : Tab} {P : Prog} {call : Call} {X : Cx} {a b d e o : Expr} {x y z : E} {pos apos : Pos} {σ : L2.St} {fr c : List Cell} {γ : MP.Env} {ρ : List Addr} {H : Hp}
theorem _root_.L2.PS.mono {e : Stmt} {t t' : TS} (h : PS X e t) (k : ∀ D σ H, t' D σ H → t D σ H) : PS X e t' := ⟨fun pins s σ H Q I q => h.run pins s σ H Q I (k Q σ H q)⟩
theorem _root_.L2.PSs.mono {e : List Stmt} {t t' : TS} (h : PSs X e t) (k : ∀ D σ H, t' D σ H → t D σ H) : PSs X e t' := ⟨fun pins s σ H Q I q => h.run pins s σ H Q I (k Q σ H q)⟩
theorem EnvOk.set (h : EnvOk T ρ H σ γ) {i : Nat} {v : V} {dd : D} (r : Rep T ρ H v dd) (hi : i < γ.length) : EnvOk T ρ H (σ.set i (some v)) (γ.set i (some dd)) := by
  refine ⟨by simp [h.len], fun j d' q => ?_⟩
  by_cases hj : j = i
  · subst hj
    rw [List.getElem?_set_self (by omega)] at q
    cases q
    exact ⟨v, by rw [List.getElem?_set_self (by rw [← h.len]; exact hi)], .inl r⟩
  · rw [List.getElem?_set_ne (Ne.symm hj)] at q
    obtain ⟨w, h1, h2⟩ := h.at_ j d' q
    exact ⟨w, by rw [List.getElem?_set_ne (Ne.symm hj)]; exact h1, h2⟩
/-- on from a state -/
theorem tS_of {f : Evl Fl} {D : Ends} (g : Got T W0 σ fr γ (RFl T D) ρ H c (f γ fr.length c)) : tS T f D σ H := ⟨ρ, fr, c, γ, g.st, g.en, g.p⟩
theorem Got.nx {D : Ends} {γ' : MP.Env} {c' : List Cell} {σ' : L2.St} (g : Got T W0 σ fr γ (RFl T D) ρ H c (.ok (.nx γ') c)) (en : EnvOk T ρ H σ' γ') : D.nx σ' H := g.p ρ H (Ext.refl _ _) g.st σ' en
/-- a statement list's steps -/
theorem SSs_nil : PSs X [] (tS T (evSs P call .nil)) := pss_nil.mono fun D σ H ⟨ρ, fr, c, γ, st, en, p⟩ => p ρ H (Ext.refl _ _) st σ en
theorem SSs_cons {s : Stmt} {ss : List Stmt} {xs : S} {xss : Ss} (h : PS X s (tS T (evS P call xs))) (hs : PSs X ss (tS T (evSs P call xss))) : PSs X (s :: ss) (tS T (evSs P call (.cons xs xss))) := by
  refine (pss_cons h hs).mono fun D σ H hh => ?_
  obtain ⟨ρ, fr, c, γ, st, en, p⟩ := hh
  unfold evSs at p
  refine ⟨ρ, fr, c, γ, st, en, p.bind.imp fun ρ1 H1 fl _ ⟨c1, e1, s1, _, q⟩ => ?_⟩
  cases fl with
  | nx γ' => exact fun σ' en' => ⟨ρ1, fr, c1, γ', s1, en', q⟩
  | bk γ' => exact fun σ' en' => q ρ1 H1 (Ext.refl _ _) s1 σ' en'
  | ct γ' => exact fun σ' en' => q ρ1 H1 (Ext.refl _ _) s1 σ' en'
  | rt dd => exact fun v r => q ρ1 H1 (Ext.refl _ _) s1 v r
theorem SS_pas : PS X (.Pass pos) (tS T (evS P call .pas)) := ps_pass.mono fun D σ H ⟨ρ, fr, c, γ, st, en, p⟩ => p ρ H (Ext.refl _ _) st σ en
theorem SS_brk : PS X (.Break pos) (tS T (evS P call .brk)) := ps_break.mono fun D σ H ⟨ρ, fr, c, γ, st, en, p⟩ => p ρ H (Ext.refl _ _) st σ en
theorem SS_cnt : PS X (.Continue pos) (tS T (evS P call .cnt)) := ps_continue.mono fun D σ H ⟨ρ, fr, c, γ, st, en, p⟩ => p ρ H (Ext.refl _ _) st σ en
/-- a statement that never comes -/
theorem SS_bad {s : Stmt} {f : Evl Fl} (h : ∀ γ b c, f γ b c = .bad) : PS X s (tS T f) := ps_never.mono fun D σ H ⟨ρ, fr, c, γ, st, en, p⟩ => by rw [h] at p; exact p
theorem SS_ret (ha : PE X a (tE T W0 (ev P call x))) : PS X (.Return (some a) pos) (tS T (evS P call (.ret x))) := by
  refine (ps_ret ha).mono fun D σ H h => ?_
  obtain ⟨ρ, fr, c, γ, st, en, p⟩ := h
  unfold evS at p
  exact tE_mono (tE_step (W := W0) ⟨st, en, p⟩) fun v H1 ⟨ρ1, c1, dd, e1, r1, g1⟩ => g1.p ρ1 H1 (Ext.refl _ _) g1.st v r1
theorem SS_retN : PS X (.Return none pos) (tS T (evS P call (.ret (.con .non)))) := by
  refine ps_retN.mono fun D σ H h => ?_
  obtain ⟨ρ, fr, c, γ, st, en, p⟩ := h
  unfold evS ev at p
  exact p ρ H (Ext.refl _ _) st _ .non
theorem SS_expr (ha : PE X a (tE T W0 (ev P call x))) (hs : swapsWith a none pos.line X.env = pure false) : PS X (.Expr a pos) (tS T (evS P call (.expr x))) := by
  refine (ps_expr ha hs).mono fun D σ H h => ?_
  obtain ⟨ρ, fr, c, γ, st, en, p⟩ := h
  unfold evS at p
  exact tE_mono (tE_step (W := W0) ⟨st, en, p⟩) fun v H1 ⟨ρ1, c1, dd, e1, r1, g1⟩ => g1.p ρ1 H1 (Ext.refl _ _) g1.st _ g1.en
theorem SS_doc {t : Str} {j : Nat} {p2 : Pos} : PS X (.Expr (.Constant (.str t) j p2) pos) (tS T (evS P call .pas)) := ps_doc.mono fun D σ H ⟨ρ, fr, c, γ, st, en, p⟩ => p ρ H (Ext.refl _ _) st σ en
theorem SS_ife {t : MP.T} {sa sb : List Stmt} {xa xb : Ss} (ht : PT X a (tT T W0 (evT P call t))) (h1 : PSs X sa (tS T (evSs P call xa))) (h2 : PSs X sb (tS T (evSs P call xb))) : PS X (.If a sa sb pos) (tS T (evS P call (.ife t xa xb))) := by
  refine (ps_if ht h1 h2).mono fun D σ H h => ?_
  obtain ⟨ρ, fr, c, γ, st, en, p⟩ := h
  unfold evS at p
  refine tT_mono (tT_step (W := W0) ⟨st, en, p⟩) fun k H1 ⟨ρ1, c1, e1, g1⟩ => ?_
  cases k with
  | true => rw [if_pos rfl] at g1 ⊢; exact tS_of g1
  | false => rw [if_neg Bool.false_ne_true] at g1 ⊢; exact tS_of g1
def tgIx : Tg → List Nat
  | .nm i => [i]
  | .tp is => is
/-- the slots beside these are kept -/
def Kept (σ σ' : L2.St) (is : List Nat) : Prop := σ'.length = σ.length ∧ ∀ j, j ∉ is → σ'[j]? = σ[j]?
/-- a target's store -/
def gA (T : Tab) (tg : Tg) : TG := fun v σ H Q => ∃ ρ c γ γ' dd, StoreOk T ρ H c ∧ EnvOk T ρ H σ γ ∧ Rep T ρ H v dd ∧ asgT tg dd γ = some γ' ∧ ∀ σ', EnvOk T ρ H σ' γ' → Kept σ σ' (tgIx tg) → Q σ' H
theorem _root_.L2.PG.mono {e : Expr} {t t' : TG} (h : PG X e t) (k : ∀ v σ H Q, t' v σ H Q → t v σ H Q) : PG X e t' := ⟨fun pins s σ H v u Q I r q => h.run pins s σ H v u Q I r (k v σ H Q q)⟩
theorem _root_.L2.PGs.mono {e : List Expr} {t t' : TGs} (h : PGs X e t) (k : ∀ v σ H Q, t' v σ H Q → t v σ H Q) : PGs X e t' := ⟨fun pins s σ H v u Q I r q => h.run pins s σ H v u Q I r (k v σ H Q q)⟩
theorem SG_nm {i : Nat} {n : Str} (hN : X.N.Nodup) (hi : X.N[i]? = some n) (hx : Loc X.env.scope n) (hf : X.fn n = true ∨ X.env.scope.names.lookup n = some .local) : PG X (.Name n pos) (gA T (.nm i)) := by
  refine (pg_name hN hi hx hf).mono fun v σ H Q h => ?_
  obtain ⟨ρ, c, γ, γ', dd, st, en, r, ha, q⟩ := h
  have ha' : (if i < γ.length then some (γ.set i (some dd)) else none) = some γ' := ha
  by_cases hl : i < γ.length
  · rw [if_pos hl] at ha'; cases ha'
    exact q _ (en.set r hl) ⟨by simp, fun j hj => List.getElem?_set_ne (fun z => hj (by simp [tgIx, z]))⟩
  · rw [if_neg hl] at ha'; cases ha'
def gL (T : Tab) (is : List Nat) : TGs := fun vs σ H Q => ∃ ρ c γ γ' ds, StoreOk T ρ H c ∧ EnvOk T ρ H σ γ ∧ RepL T ρ H vs ds ∧ asgT.asgL is ds γ = some γ' ∧ ∀ σ', EnvOk T ρ H σ' γ' → Kept σ σ' is → Q σ' H
/-- names of a tuple target -/
inductive NmL (X : Cx) : List Expr → List Nat → Prop where
  | nil : NmL X [] []
  | cons {i : Nat} {n : Str} {p : Pos} {es : List Expr} {is : List Nat} (hi : X.N[i]? = some n) (hx : Loc X.env.scope n) (hf : X.fn n = true ∨ X.env.scope.names.lookup n = some .local) (r : NmL X es is) : NmL X (.Name n p :: es) (i :: is)
theorem NmL.pgs (hN : X.N.Nodup) {es : List Expr} {is : List Nat} (h : NmL X es is) : PGs X es (gL T is) := by
  induction h with
  | nil =>
    refine pgs_nil.mono fun vs σ H Q h => ?_
    obtain ⟨ρ, c, γ, γ', ds, st, en, r, ha, q⟩ := h
    cases ds with
    | nil => cases ha; cases r; exact ⟨rfl, q _ en ⟨rfl, fun _ _ => rfl⟩⟩
    | cons _ _ => cases ha
  | @cons i n p es is hi hx hf _ ih =>
    refine (pgs_cons (pg_name (pos := p) hN hi hx hf) ih (by rfl)).mono fun vs σ H Q h => ?_
    obtain ⟨ρ, c, γ, γ', ds, st, en, r, ha, q⟩ := h
    cases ds with
    | nil => cases ha
    | cons dd ds =>
      have ha' : (if i < γ.length then asgT.asgL is ds (γ.set i (some dd)) else none) = some γ' := ha
      by_cases hl : i < γ.length
      · rw [if_pos hl] at ha'
        cases r with
        | cons r1 r2 => exact ⟨_, _, rfl, ρ, c, _, γ', ds, st, en.set r1 hl, r2, ha', fun σ' en' k => q σ' en' ⟨by rw [k.1]; simp, fun j hj => by
          rw [k.2 j (fun z => hj (List.mem_cons_of_mem _ z))]
          exact List.getElem?_set_ne (fun z => hj (by rw [z]; exact List.mem_cons_self))⟩⟩
      · rw [if_neg hl] at ha'; cases ha'
theorem NmL.plain {es : List Expr} {is : List Nat} (h : NmL X es is) : (assignEach es X.env).length = es.length ∧ (assignEach es X.env).findIdx? (·.1) = none := by
  induction h with
  | nil => exact ⟨rfl, rfl⟩
  | @cons i n p es is hi hx hf _ ih =>
    have e : assignEach (.Name n p :: es) X.env = (false, assign (.Name n p) X.env) :: assignEach es X.env := rfl
    rw [e]
    exact ⟨by simp [ih.1], by rw [List.findIdx?_cons]; simp [ih.2]⟩
theorem NmL.len {es : List Expr} {is : List Nat} (h : NmL X es is) : es.length = is.length := by
  induction h with
  | nil => rfl
  | cons _ _ _ _ ih => simp [ih]
theorem asgL_len : ∀ {is : List Nat} {ds : List D} {γ γ' : MP.Env}, asgT.asgL is ds γ = some γ' → ds.length = is.length
  | [], [], _, _, _ => rfl
  | i :: is, dd :: ds, γ, γ', h => by
    have h' : (if i < γ.length then asgT.asgL is ds (γ.set i (some dd)) else none) = some γ' := h
    by_cases hl : i < γ.length
    · rw [if_pos hl] at h'
      simp [asgL_len h']
    · rw [if_neg hl] at h'; cases h'
theorem SG_tp (hK : X.K = T.K) (hc : X.calm = true) (hN : X.N.Nodup) {es : List Expr} {is : List Nat} {k : Nat} (h : NmL X es is) : PG X (.Tuple es k pos) (gA T (.tp is)) := by
  refine ⟨fun pins s σ H v u Q I rv hh => ?_⟩
  obtain ⟨ρ, c, γ, γ', dd, st, en, r, ha, q⟩ := hh
  cases dd with
  | tup ds =>
    have hl := asgL_len ha
    obtain ⟨a, vs, rfl, hs, rl⟩ := r.tupE
    exact (pg_tup hc (h.pgs (T := T) hN) h.plain.1 h.plain.2).run pins s σ H _ u Q I rv ⟨a, vs, rfl, hK ▸ hs, by rw [rl.length, hl, h.len], ρ, c, γ, γ', ds, st, en, rl, ha, q⟩
  | lst ds =>
    have hl := asgL_len ha
    cases r with
    | lst h1 _ rl => exact (pg_lst hc (h.pgs (T := T) hN) h.plain.1 h.plain.2).run pins s σ H _ u Q I rv ⟨_, _, rfl, .inl (.inl h1), by rw [rl.length, hl, h.len], ρ, c, γ, γ', ds, st, en, rl, ha, q⟩
  | _ => cases ha
theorem SS_asg {tg : Expr} {t : Tg} (ha : PE X a (tE T W0 (ev P call x))) (hg : PG X tg (gA T t)) (hs : swapsWithSole [tg] a pos.line X.env = pure false) (hw : swappedStores [tg] a X.env = pure none) (h1 : (assignEach [tg] X.env).map (·.2) = [assign tg X.env]) :
    PS X (.Assign [tg] a pos) (tS T (evS P call (.asg t x))) := by
  refine (ps_asg ha hg hs hw h1).mono fun D σ H h => ?_
  obtain ⟨ρ, fr, c, γ, st, en, p⟩ := h
  unfold evS at p
  refine tE_mono (tE_step (W := W0) ⟨st, en, p⟩) fun v H1 ⟨ρ1, c1, dd, e1, r1, g1⟩ => ?_
  cases q : asgT t dd γ with
  | none => rw [q] at g1; exact g1.bad.elim
  | some γ' =>
    rw [q] at g1
    exact ⟨ρ1, fr ++ c1, γ, γ', dd, g1.st, g1.en, r1, q, fun σ' en' _ => g1.p ρ1 H1 (Ext.refl _ _) g1.st σ' en'⟩
theorem RepL.three {vs : List V} {d1 d2 d3 : D} (r : RepL T ρ H vs [d1, d2, d3]) : ∃ x y z, vs = [x, y, z] ∧ Rep T ρ H x d1 ∧ Rep T ρ H y d2 ∧ Rep T ρ H z d3 := by
  cases r with
  | cons h r =>
    obtain ⟨y, z, rfl, h2, h3⟩ := r.two
    exact ⟨_, _, _, rfl, h, h2, h3⟩
theorem SS_par2 {i j : Nat} {n1 n2 : Str} {px py pt : Pos} {kt k2 : Nat} {pt2 : Pos} {es : Es} (hc : X.calm = true) (hN : X.N.Nodup) (hi : X.N[i]? = some n1) (hj : X.N[j]? = some n2) (hij : i ≠ j)
    (hx : X.env.scope.names.lookup n1 = some .local) (hy : X.env.scope.names.lookup n2 = some .local) (ha : PA X [a, b] (tA T W0 (evs P call es)))
    (hw : swappedStores [.Tuple [.Name n1 px, .Name n2 py] kt pt] (.Tuple [a, b] k2 pt2) X.env = pure (some [n1, n2])) :
    PS X (.Assign [.Tuple [.Name n1 px, .Name n2 py] kt pt] (.Tuple [a, b] k2 pt2) pos) (tS T (evS P call (.par [i, j] es))) := by
  refine (ps_par hc hN hi hj hij hx hy ha hw).mono fun D σ H h => ?_
  obtain ⟨ρ, fr, c, γ, st, en, p⟩ := h
  unfold evS at p
  refine tA_mono (tA_step (W := W0) ⟨st, en, p⟩) fun vs H1 ⟨ρ1, c1, ds, e1, r1, g1⟩ => ?_
  cases q : asgT.asgL [i, j] ds γ with
  | none => rw [q] at g1; exact g1.bad.elim
  | some γ' =>
    rw [q] at g1
    match ds, asgL_len q with
    | [d1, d2], _ =>
      obtain ⟨v1, v2, rfl, q1, q2⟩ := r1.two
      refine ⟨_, _, rfl, ?_⟩
      have q' : (if i < γ.length then (if j < (γ.set i (some d1)).length then some ((γ.set i (some d1)).set j (some d2)) else none) else none) = some γ' := q
      by_cases h1 : i < γ.length
      · by_cases h2 : j < (γ.set i (some d1)).length
        · rw [if_pos h1, if_pos h2] at q'; cases q'
          exact g1.p ρ1 H1 (Ext.refl _ _) g1.st _ ((g1.en.set q1 h1).set q2 h2)
        · rw [if_pos h1, if_neg h2] at q'; cases q'
      · rw [if_neg h1] at q'; cases q'
theorem SS_par3 {i j l : Nat} {n1 n2 n3 : Str} {px py pz pt : Pos} {kt k2 : Nat} {pt2 : Pos} {es : Es} (hc : X.calm = true) (hN : X.N.Nodup) (hi : X.N[i]? = some n1) (hj : X.N[j]? = some n2) (hl : X.N[l]? = some n3) (hij : i ≠ j) (hil : i ≠ l) (hjl : j ≠ l)
    (hx : X.env.scope.names.lookup n1 = some .local) (hy : X.env.scope.names.lookup n2 = some .local) (hz : X.env.scope.names.lookup n3 = some .local) (ha : PA X [a, b, d] (tA T W0 (evs P call es)))
    (hw : swappedStores [.Tuple [.Name n1 px, .Name n2 py, .Name n3 pz] kt pt] (.Tuple [a, b, d] k2 pt2) X.env = pure (some [n1, n2, n3])) :
    PS X (.Assign [.Tuple [.Name n1 px, .Name n2 py, .Name n3 pz] kt pt] (.Tuple [a, b, d] k2 pt2) pos) (tS T (evS P call (.par [i, j, l] es))) := by
  refine (ps_par3 hc hN hi hj hl hij hil hjl hx hy hz ha hw).mono fun D σ H h => ?_
  obtain ⟨ρ, fr, c, γ, st, en, p⟩ := h
  unfold evS at p
  refine tA_mono (tA_step (W := W0) ⟨st, en, p⟩) fun vs H1 ⟨ρ1, c1, ds, e1, r1, g1⟩ => ?_
  cases q : asgT.asgL [i, j, l] ds γ with
  | none => rw [q] at g1; exact g1.bad.elim
  | some γ' =>
    rw [q] at g1
    match ds, asgL_len q with
    | [d1, d2, d3], _ =>
      obtain ⟨v1, v2, v3, rfl, q1, q2, q3⟩ := r1.three
      refine ⟨_, _, _, rfl, ?_⟩
      have q' : (if i < γ.length then (if j < (γ.set i (some d1)).length then (if l < ((γ.set i (some d1)).set j (some d2)).length then some (((γ.set i (some d1)).set j (some d2)).set l (some d3)) else none) else none) else none) = some γ' := q
      by_cases h1 : i < γ.length
      · by_cases h2 : j < (γ.set i (some d1)).length
        · by_cases h3 : l < ((γ.set i (some d1)).set j (some d2)).length
          · rw [if_pos h1, if_pos h2, if_pos h3] at q'; cases q'
            exact g1.p ρ1 H1 (Ext.refl _ _) g1.st _ (((g1.en.set q1 h1).set q2 h2).set q3 h3)
          · rw [if_pos h1, if_pos h2, if_neg h3] at q'; cases q'
        · rw [if_pos h1, if_neg h2] at q'; cases q'
      · rw [if_neg h1] at q'; cases q'
theorem repF_put {f : Str} {v : V} {dd : D} (r : Rep T ρ H v dd) : ∀ {vs : List (Str × V)} {fs : List (Str × D)}, RepF T ρ H vs fs → RepF T ρ H (L2.putF f v vs) (evS.putF f dd fs)
  | _, _, .nil => .cons r .nil
  | _, _, .cons (f := g) h q => by
    show RepF T ρ H (if g = f then _ else _) (if g = f then _ else _)
    by_cases z : g = f
    · rw [if_pos z, if_pos z]; exact .cons r q
    · rw [if_neg z, if_neg z]; exact .cons h (repF_put r q)
theorem setC_eq {n : Nat} {k k' : Cell} (h : cellAt fr.length c n = some k) : fr ++ setC fr.length c n k' = (fr ++ c).set n k' := by
  have hb := (cellAt_eq h).2
  unfold setC
  rw [List.set_append, if_neg (by omega)]
theorem RepF.length {vs : List (Str × V)} {fs : List (Str × D)} (r : RepF T ρ H vs fs) : vs.length = fs.length := by
  induction fs generalizing vs with
  | nil => cases r; rfl
  | cons p fs ih => cases r with | cons _ q => simp [ih q]
theorem SS_seta (hK : X.K = T.K) {k : Nat} (F : ObF X T P call k) {f : Str} {p1 : Pos} (ha : PE X a (tE T W0 (ev P call x))) (ho : PE X o (tE T W0 (ev P call y))) (hs : swapsWith a (some (.Attribute o f p1)) pos.line X.env = pure false) :
    PS X (.Assign [.Attribute o f p1] a pos) (tS T (evS P call (.seta y f x))) := by
  refine (ps_fld ho ha hs).mono fun D σ H h => ?_
  obtain ⟨ρ, fr, c, γ, st, en, p⟩ := h
  unfold evS at p
  refine tE_mono (tE_step (W := W0) ⟨st, en, p⟩) fun v H1 ⟨ρ1, c1, dd, e1, r1, g1⟩ => ?_
  refine tE_mono (tE_step g1) fun w H2 ⟨ρ2, c2, od, e2, r2, g2⟩ => ?_
  cases od with
  | ref n =>
    have g3 : Got T W0 σ fr γ (RFl T D) ρ2 H2 c2 (match cellAt fr.length c2 n with
      | some (.ins cn fs) => if P.fld cn f ∧ fs.length < 1000 then .ok (.nx γ) (setC fr.length c2 n (.ins cn (evS.putF f dd fs))) else .bad
      | _ => .bad) := g2
    cases hc : cellAt fr.length c2 n with
    | none => rw [hc] at g3; exact g3.bad.elim
    | some ce =>
      rw [hc] at g3
      obtain ⟨a', rfl, hn, q⟩ := Rep.cell r2 g2.st hc
      cases q with
      | @ins C dx cn vs fs ha hC q =>
        have g4 : Got T W0 σ fr γ (RFl T D) ρ2 H2 c2 (if P.fld cn f ∧ fs.length < 1000 then .ok (.nx γ) (setC fr.length c2 n (.ins cn (evS.putF f dd fs))) else .bad) := g3
        by_cases hz : P.fld cn f ∧ fs.length < 1000
        · rw [if_pos hz] at g4
          obtain ⟨cl, na⟩ := F.fld cn f C hz.1 hC
          have e3 : Ext ρ2 H2 ρ2 (upd H2 a' (.ins C dx (L2.putF f v vs))) := Ext.write (List.mem_of_getElem? hn)
          have st' := g2.st.write (c := .ins cn (evS.putF f dd fs)) hn ha (fun _ z => by cases z) (fun _ z => by cases z) (.ins (T := T) upd_same hC (RepF.mono e3 (repF_put (r1.mono e2) q)))
          rw [← setC_eq hc] at st'
          refine ⟨a', C, dx, vs, rfl, ha, hK ▸ cl, hK ▸ na, by rw [q.length]; exact hz.2, ?_⟩
          exact g4.p ρ2 _ e3 st' σ (g2.en.mono e3)
        · rw [if_neg hz] at g4; exact g4.bad.elim
      | lst _ _ => exact g3.bad.elim
      | exn0 _ _ => exact g3.bad.elim
      | exn _ _ _ _ _ _ => exact g3.bad.elim
  | _ => exact g2.bad.elim
theorem SS_seti {b : Expr} (hx : PE X a (tE T W0 (ev P call x))) (ho : PE X o (tE T W0 (ev P call y))) (hi : PE X b (tE T W0 (ev P call z))) {p1 : Pos}
    (hs : swapsWithSole [.Subscript o b p1] a pos.line X.env = pure false) (hw : swappedStores [.Subscript o b p1] a X.env = pure none) (h1 : (assignEach [.Subscript o b p1] X.env).map (·.2) = [assign (.Subscript o b p1) X.env])
    (hsub : ∀ v, assign (.Subscript o b p1) X.env v = (do
      let ov ← holding [v] (eval o X.env)
      let iv ← holding [v, ov] (eval b X.env)
      standAt p1
      holding [v, ov, iv] (setItem ov iv v)
      release [v, ov, iv] [])) :
    PS X (.Assign [.Subscript o b p1] a pos) (tS T (evS P call (.seti y z x))) := by
  refine (ps_asg hx (pg_sub ho hi set_list hsub) hs hw h1).mono fun D σ H h => ?_
  obtain ⟨ρ, fr, c, γ, st, en, p⟩ := h
  unfold evS at p
  refine tE_mono (tE_step (W := W0) ⟨st, en, p⟩) fun v H1 ⟨ρ1, c1, dd, e1, r1, g1⟩ => ?_
  refine tE_mono (tE_step g1) fun w H2 ⟨ρ2, c2, od, e2, r2, g2⟩ => ?_
  refine tE_mono (tE_step g2) fun u H3 ⟨ρ3, c3, id, e3, r3, g3⟩ => ?_
  cases od with
  | ref n =>
    cases id with
    | int kk =>
      cases r3
      have g4 : Got T W0 σ fr γ (RFl T D) ρ3 H3 c3 (match cellAt fr.length c3 n with
        | some (.lst xs) => (match L2.ixN xs.length kk with
          | some j => .ok (.nx γ) (setC fr.length c3 n (.lst (xs.set j dd)))
          | none => .bad)
        | _ => .bad) := g3
      cases hc : cellAt fr.length c3 n with
      | none => rw [hc] at g4; exact g4.bad.elim
      | some ce =>
        rw [hc] at g4
        obtain ⟨a', rfl, hn, q⟩ := Rep.cell (r2.mono e3) g3.st hc
        cases q with
        | @lst vs xs ha q =>
          have g5 : Got T W0 σ fr γ (RFl T D) ρ3 H3 c3 (match L2.ixN xs.length kk with
            | some j => .ok (.nx γ) (setC fr.length c3 n (.lst (xs.set j dd)))
            | none => .bad) := g4
          cases hj : L2.ixN xs.length kk with
          | none => rw [hj] at g5; exact g5.bad.elim
          | some j =>
            rw [hj] at g5
            have e4 : Ext ρ3 H3 ρ3 (upd H3 a' (.lst (vs.set j v))) := Ext.write (List.mem_of_getElem? hn)
            have st' := g3.st.write (c := .lst (xs.set j dd)) hn ha (fun _ z => by cases z) (fun _ z => by cases z) (.lst (T := T) upd_same (RepL.set ((r1.mono (e2.trans e3)).mono e4) j (q.mono e4)))
            rw [← setC_eq hc] at st'
            refine ⟨a', vs, kk, j, rfl, rfl, ha, by rw [q.length]; exact hj, ?_⟩
            exact g5.p ρ3 _ e4 st' σ (g3.en.mono e4)
        | ins _ _ _ => exact g4.bad.elim
        | exn0 _ _ => exact g4.bad.elim
        | exn _ _ _ _ _ _ => exact g4.bad.elim
    | _ => exact g3.bad.elim
  | _ => exact g3.bad.elim
theorem SS_aug {i : Nat} {n : Str} {op : Operator} {p1 : Pos} (hop : op = .Add ∨ op = .Sub) (hN : X.N.Nodup) (hi : X.N[i]? = some n) (hl : Loc X.env.scope n) (hf : X.fn n = true ∨ X.env.scope.names.lookup n = some .local) (ha : PE X a (tE T W0 (ev P call x))) :
    PS X (.AugAssign (.Name n p1) op a pos) (tS T (evS P call (.aug i op x))) := by
  have key : ∀ (g : Int → Int → Int), PIp X op (ipI g) → (∀ γ b c, evS P call (.aug i op x) γ b c = match γ[i]? with
      | some (some xx) => (ev P call x γ b c).bind fun y c => match xx, y with
        | .int m, .int n => .ok (.nx (γ.set i (some (.int (g m n))))) c
        | _, _ => .bad
      | _ => .bad) → PS X (.AugAssign (.Name n p1) op a pos) (tS T (evS P call (.aug i op x))) := fun g hp he => by
    refine (ps_aug hN hi hl ha hp hf).mono fun D σ H h => ?_
    obtain ⟨ρ, fr, c, γ, st, en, p⟩ := h
    rw [he] at p
    cases q : γ[i]? with
    | none => rw [q] at p; exact p.elim
    | some od =>
      cases od with
      | none => rw [q] at p; exact p.elim
      | some xx =>
        rw [q] at p
        obtain ⟨v, h1, h2⟩ := en.at_ i xx q
        refine ⟨v, h1, ?_⟩
        refine tE_mono (tE_step (W := W0) ⟨st, en, p⟩) fun w H1 ⟨ρ1, c1, dd, e1, r1, g1⟩ => ?_
        cases xx with
        | int m =>
          cases dd with
          | int n =>
            cases r1; cases h2.data rfl
            refine ⟨_, _, rfl, rfl, ?_⟩
            exact g1.p ρ1 H1 (Ext.refl _ _) g1.st _ (g1.en.set (.int _) (List.getElem?_eq_some_iff.mp q).1)
          | _ => exact g1.bad.elim
        | _ => cases dd <;> exact g1.bad.elim
  rcases hop with rfl | rfl
  · refine key (fun i j => i + j) ip_add fun γ b c => ?_
    unfold evS
    cases γ[i]? with
    | none => rfl
    | some od => cases od with
      | none => rfl
      | some xx =>
        refine congrArg (Res.bind _) (funext fun y => funext fun c => ?_)
        cases xx <;> cases y <;> rfl
  · refine key (fun i j => i - j) ip_sub fun γ b c => ?_
    unfold evS
    cases γ[i]? with
    | none => rfl
    | some od => cases od with
      | none => rfl
      | some xx =>
        refine congrArg (Res.bind _) (funext fun y => funext fun c => ?_)
        cases xx <;> cases y <;> rfl
end
end MP
end
section
set_option maxRecDepth 100000
set_option maxHeartbeats 1000000
namespace MP
open PySem PySem.Spec PyProof.Rows L2
section
variable {T : Tab} {P : Prog} {call : Call} {X : Cx} {a b d e o : Expr} {x y z : E} {pos apos : Pos} {σ : L2.St} {fr c : List Cell} {γ : MP.Env} {ρ : List Addr} {H : Hp}
theorem lstCell_ok (st : StoreOk T ρ H (fr ++ c)) {dd : D} {v : V} (r : Rep T ρ H v dd) {xs : List D} (h : lstCell fr.length c dd = some xs) : ∃ a n vs, v = .ref a ∧ dd = .ref n ∧ ρ[n]? = some a ∧ H a = some (.lst vs) ∧ RepL T ρ H vs xs ∧ cellAt fr.length c n = some (.lst xs) := by
  cases dd with
  | ref n =>
    have h1 : (match cellAt fr.length c n with
      | some (.lst xs) => some xs
      | _ => none) = some xs := h
    cases hc : cellAt fr.length c n with
    | none => rw [hc] at h1; cases h1
    | some ce =>
      rw [hc] at h1
      obtain ⟨a, rfl, hn, q⟩ := Rep.cell r st hc
      cases q with
      | lst ha q => cases h1; exact ⟨_, n, _, rfl, rfl, hn, ha, q, hc⟩
      | ins _ _ _ => cases h1
      | exn0 _ _ => cases h1
      | exn _ _ _ _ _ _ => cases h1
  | _ => cases h
theorem few1 {e : Expr} {cpos : Pos} (env : PySem.Env) (hn : ∀ y q, e ≠ .Starred y q) : ((backTo cpos (starEach [e] env)).all (fun x => !x.1) && (backToKw cpos (keywordEach [] env)).all (fun x => x.1.isSome)
      && decide ([e].length + ([] : List Keyword).length + (if ([] : List Keyword).isEmpty then 0 else 1) < 30)) = true := by
  rw [starEach_cons e [] env hn]
  rfl
/-- o.append(e) -/
theorem SE_app (hK : X.K = T.K) (ho : PE X o (tE T W0 (ev P call x))) (ha : PE X e (tE T W0 (ev P call y))) (hn : ∀ y q, e ≠ .Starred y q) (hs : ∀ f env w, attributeBase o f env w = w) (hl : (apos.endLine == pos.line) = true) :
    PE X (.Call (.Attribute o "append" apos) [e] [] pos) (tE T W0 (ev P call (.app x y))) := by
  have s1 := starEach_cons e [] X.env hn
  refine (pe_bm (T := "list") (id := "list.append") F.plainAttrs_list F.slot_list_append F.type_list_append mt_append ho (pa_cons ha pa_nil s1) (hs _ _ _) (few1 X.env hn) hl s1 (by rfl)).mono fun σ H Q h => ?_
  obtain ⟨ρ, fr, c, γ, st, en, p⟩ := h
  unfold ev at p
  refine tE_mono (tE_step (W := W0) ⟨st, en, p⟩) fun v H1 ⟨ρ1, c1, d1, e1, r1, g1⟩ => ?_
  cases hq : lstCell fr.length c1 d1 with
  | none => rw [hq] at g1; exact g1.bad.elim
  | some xs =>
    rw [hq, if_neg (by simp)] at g1
    obtain ⟨a, n, vs, rfl, rfl, hn1, ha1, ra, hc1⟩ := lstCell_ok g1.st r1 hq
    refine ⟨.inl ⟨rfl, vs, hK ▸ .inl (.inl ha1)⟩, ?_⟩
    refine tE_mono (tE_step g1) fun w H2 ⟨ρ2, c2, d2, e2, r2, g2⟩ => ?_
    have g3 : Got T W0 σ fr γ (RQ T Q) ρ2 H2 c2 (match cellAt fr.length c2 n with
      | some (.lst xs) => if xs.length < sizeLine then .ok .non (setC fr.length c2 n (.lst (xs ++ [d2]))) else .bad
      | _ => .bad) := g2
    cases hc : cellAt fr.length c2 n with
    | none => rw [hc] at g3; exact g3.bad.elim
    | some ce =>
      rw [hc] at g3
      obtain ⟨a', ea, hn2, q⟩ := Rep.cell (r1.mono e2) g2.st hc
      cases ea
      cases q with
      | @lst vs2 xs2 ha2 q =>
        have g4 : Got T W0 σ fr γ (RQ T Q) ρ2 H2 c2 (if xs2.length < sizeLine then .ok .non (setC fr.length c2 n (.lst (xs2 ++ [d2]))) else .bad) := g3
        by_cases hz : xs2.length < sizeLine
        · rw [if_pos hz] at g4
          have e3 : Ext ρ2 H2 ρ2 (upd H2 a (.lst (vs2 ++ [w]))) := Ext.write (List.mem_of_getElem? hn2)
          have st' := g2.st.write (c := .lst (xs2 ++ [d2])) hn2 ha2 (fun _ z => by cases z) (fun _ z => by cases z) (.lst (T := T) upd_same ((q.mono e3).append (.cons (r2.mono e3) .nil)))
          rw [← setC_eq hc] at st'
          exact ⟨a, vs2, w, rfl, rfl, ha2, by rw [q.length]; exact hz, g4.ok e3 st' .non⟩
        · rw [if_neg hz] at g4; exact g4.bad.elim
      | ins _ _ _ => exact g3.bad.elim
      | exn0 _ _ => exact g3.bad.elim
      | exn _ _ _ _ _ _ => exact g3.bad.elim
/-- o.pop(e) -/
theorem SE_popi (hK : X.K = T.K) (ho : PE X o (tE T W0 (ev P call x))) (ha : PE X e (tE T W0 (ev P call y))) (hn : ∀ y q, e ≠ .Starred y q) (hs : ∀ f env w, attributeBase o f env w = w) (hl : (apos.endLine == pos.line) = true) :
    PE X (.Call (.Attribute o "pop" apos) [e] [] pos) (tE T W0 (ev P call (.popi x y))) := by
  have s1 := starEach_cons e [] X.env hn
  refine (pe_bm (T := "list") (id := "list.pop") F.plainAttrs_list F.slot_list_pop F.type_list_pop mt_popAt ho (pa_cons ha pa_nil s1) (hs _ _ _) (few1 X.env hn) hl s1 (by rfl)).mono fun σ H Q h => ?_
  obtain ⟨ρ, fr, c, γ, st, en, p⟩ := h
  unfold ev at p
  refine tE_mono (tE_step (W := W0) ⟨st, en, p⟩) fun v H1 ⟨ρ1, c1, d1, e1, r1, g1⟩ => ?_
  cases hq : lstCell fr.length c1 d1 with
  | none => rw [hq] at g1; exact g1.bad.elim
  | some xs =>
    rw [hq, if_neg (by simp)] at g1
    obtain ⟨a, n, vs, rfl, rfl, hn1, ha1, ra, hc1⟩ := lstCell_ok g1.st r1 hq
    refine ⟨.inl ⟨rfl, vs, hK ▸ .inl (.inl ha1)⟩, ?_⟩
    refine tE_mono (tE_step g1) fun w H2 ⟨ρ2, c2, d2, e2, r2, g2⟩ => ?_
    cases d2 with
    | int i =>
      cases r2
      have g3 : Got T W0 σ fr γ (RQ T Q) ρ2 H2 c2 (match cellAt fr.length c2 n with
        | some (.lst xs) => if decide (-(2 ^ 63) ≤ i) && decide (i < 2 ^ 63) then (match L2.ixN xs.length i with
          | some k => (match xs[k]? with
            | some z => .ok z (setC fr.length c2 n (.lst (xs.eraseIdx k)))
            | none => .bad)
          | none => .bad) else .bad
        | _ => .bad) := g2
      cases hc : cellAt fr.length c2 n with
      | none => rw [hc] at g3; exact g3.bad.elim
      | some ce =>
        rw [hc] at g3
        obtain ⟨a', ea, hn2, q⟩ := Rep.cell (r1.mono e2) g2.st hc
        cases ea
        cases q with
        | @lst vs2 xs2 ha2 q =>
          have g4 : Got T W0 σ fr γ (RQ T Q) ρ2 H2 c2 (if decide (-(2 ^ 63) ≤ i) && decide (i < 2 ^ 63) then (match L2.ixN xs2.length i with
            | some k => (match xs2[k]? with
              | some z => .ok z (setC fr.length c2 n (.lst (xs2.eraseIdx k)))
              | none => .bad)
            | none => .bad) else .bad) := g3
          by_cases hz : (decide (-(2 ^ 63) ≤ i) && decide (i < 2 ^ 63)) = true
          · rw [if_pos hz] at g4
            rw [Bool.and_eq_true, decide_eq_true_eq, decide_eq_true_eq] at hz
            cases hk : L2.ixN xs2.length i with
            | none => rw [hk] at g4; exact g4.bad.elim
            | some kk =>
              rw [hk] at g4
              dsimp only at g4
              cases hy : xs2[kk]? with
              | none => rw [hy] at g4; exact g4.bad.elim
              | some zz =>
                rw [hy] at g4
                obtain ⟨u, hu, ru⟩ := q.get hy
                have e3 : Ext ρ2 H2 ρ2 (upd H2 a (.lst (vs2.eraseIdx kk))) := Ext.write (List.mem_of_getElem? hn2)
                have st' := g2.st.write (c := .lst (xs2.eraseIdx kk)) hn2 ha2 (fun _ z => by cases z) (fun _ z => by cases z) (.lst (T := T) upd_same ((q.mono e3).eraseIdx kk))
                rw [← setC_eq hc] at st'
                exact ⟨a, vs2, i, kk, u, rfl, rfl, ha2, hz.1, hz.2, by rw [q.length]; exact (ixN_seq hk).1, hu, g4.ok e3 st' (ru.mono e3)⟩
          · rw [if_neg hz] at g4; exact g4.bad.elim
        | ins _ _ _ => exact g3.bad.elim
        | exn0 _ _ => exact g3.bad.elim
        | exn _ _ _ _ _ _ => exact g3.bad.elim
    | _ => exact g2.bad.elim
end
end MP
end
section
set_option maxRecDepth 100000
set_option maxHeartbeats 1000000
namespace MP
open PySem PySem.Spec PyProof.Rows L2

section
variable {T : Tab} {ρ ρ' : List Addr} {H H' : Hp} {h : List Addr}
theorem Out.hide {a : Addr} {o : HO} (hh : ∀ a ∈ h, a ∈ T.hid ∨ H a = none) (e : H a = some o) (n : Out T ρ a) : Out (T.hide h) ρ a :=
  ⟨n.1, fun m => (hh a m).elim n.2 fun z => by rw [e] at z; cases z⟩
mutual
theorem Rep.hide (hh : ∀ a ∈ h, a ∈ T.hid ∨ H a = none) : ∀ {v : V} {d : D}, Rep T ρ H v d → Rep (T.hide h) ρ H v d
  | _, _, .non => .non
  | _, _, .bl b => .bl b
  | _, _, .int i => .int i
  | _, _, .str s => .str s
  | _, _, .tup e d n q => .tup e d (n.hide hh e) (RepL.hide hh q)
  | _, _, .tupK e q => .tupK e (RepL.hide hh q)
  | _, _, .lst e n q => .lst e (n.hide hh e) (RepL.hide hh q)
  | _, _, .dic e n q => .dic e (n.hide hh e) (RepK.hide hh q)
  | _, _, .ins e c n q => .ins e c (n.hide hh e) (RepF.hide hh q)
  | _, _, .ref e => .ref e
  | _, _, .cls e => .cls e
  | _, _, .fn e => .fn e
  | _, _, .scr e n => .scr e (n.hide hh e)
  | _, _, .scrK e => .scrK e
theorem RepL.hide (hh : ∀ a ∈ h, a ∈ T.hid ∨ H a = none) : ∀ {vs : List V} {ds : List D}, RepL T ρ H vs ds → RepL (T.hide h) ρ H vs ds
  | _, _, .nil => .nil
  | _, _, .cons e q => .cons (Rep.hide hh e) (RepL.hide hh q)
theorem RepK.hide (hh : ∀ a ∈ h, a ∈ T.hid ∨ H a = none) : ∀ {vs : List (Key × V)} {ds : List (D × D)}, RepK T ρ H vs ds → RepK (T.hide h) ρ H vs ds
  | _, _, .nil => .nil
  | _, _, .cons e q => .cons (Rep.hide hh e) (RepK.hide hh q)
theorem RepF.hide (hh : ∀ a ∈ h, a ∈ T.hid ∨ H a = none) : ∀ {vs : List (Str × V)} {ds : List (Str × D)}, RepF T ρ H vs ds → RepF (T.hide h) ρ H vs ds
  | _, _, .nil => .nil
  | _, _, .cons e q => .cons (Rep.hide hh e) (RepF.hide hh q)
end
theorem Out.unhide {a : Addr} (hh : ∀ a ∈ T.hid, a ∈ h) (n : Out (T.hide h) ρ a) : Out T ρ a := ⟨n.1, fun m => n.2 (hh a m)⟩
mutual
theorem Rep.unhide (hh : ∀ a ∈ T.hid, a ∈ h) : ∀ {v : V} {d : D}, Rep (T.hide h) ρ H v d → Rep T ρ H v d
  | _, _, .non => .non
  | _, _, .bl b => .bl b
  | _, _, .int i => .int i
  | _, _, .str s => .str s
  | _, _, .tup e d n q => .tup e d (n.unhide hh) (RepL.unhide hh q)
  | _, _, .tupK e q => .tupK e (RepL.unhide hh q)
  | _, _, .lst e n q => .lst e (n.unhide hh) (RepL.unhide hh q)
  | _, _, .dic e n q => .dic e (n.unhide hh) (RepK.unhide hh q)
  | _, _, .ins e c n q => .ins e c (n.unhide hh) (RepF.unhide hh q)
  | _, _, .ref e => .ref e
  | _, _, .cls e => .cls e
  | _, _, .fn e => .fn e
  | _, _, .scr e n => .scr e (n.unhide hh)
  | _, _, .scrK e => .scrK e
theorem RepL.unhide (hh : ∀ a ∈ T.hid, a ∈ h) : ∀ {vs : List V} {ds : List D}, RepL (T.hide h) ρ H vs ds → RepL T ρ H vs ds
  | _, _, .nil => .nil
  | _, _, .cons e q => .cons (Rep.unhide hh e) (RepL.unhide hh q)
theorem RepK.unhide (hh : ∀ a ∈ T.hid, a ∈ h) : ∀ {vs : List (Key × V)} {ds : List (D × D)}, RepK (T.hide h) ρ H vs ds → RepK T ρ H vs ds
  | _, _, .nil => .nil
  | _, _, .cons e q => .cons (Rep.unhide hh e) (RepK.unhide hh q)
theorem RepF.unhide (hh : ∀ a ∈ T.hid, a ∈ h) : ∀ {vs : List (Str × V)} {ds : List (Str × D)}, RepF (T.hide h) ρ H vs ds → RepF T ρ H vs ds
  | _, _, .nil => .nil
  | _, _, .cons e q => .cons (Rep.unhide hh e) (RepF.unhide hh q)
end
/-- what is behind, but for what is hidden -/
structure ExtW (T : Tab) (ρ : List Addr) (H : Hp) (ρ' : List Addr) (H' : Hp) : Prop where
  pre : ∃ r, ρ' = ρ ++ r
  keepN : ∀ a o, H a = some o → (∀ ps, o ≠ .tbl ps) → a ∉ ρ → a ∉ T.hid → H' a = some o
  new : ∀ a, a ∈ ρ' → a ∈ ρ ∨ H a = none
  gone : ∀ a, H' a = none → a ∈ ρ ∨ H a = none
theorem _root_.MP.Ext.wk (e : Ext ρ H ρ' H') : ExtW T ρ H ρ' H' := ⟨e.pre, fun a o h t n _ => e.keepN a o h t n, e.new, e.gone⟩
theorem ExtW.keep (e : ExtW T ρ H ρ' H') (a : Addr) (o : HO) (h : H a = some o) (n : Out T ρ a) (q : ∀ ps, o ≠ .tbl ps := by intro _ z; cases z) : H' a = some o := e.keepN a o h q n.1 n.2
theorem ExtW.out (e : ExtW T ρ H ρ' H') {a : Addr} {o : HO} (h : H a = some o) (n : Out T ρ a) : Out T ρ' a := by
  refine ⟨fun m => ?_, n.2⟩
  rcases e.new a m with z | z
  · exact n.1 z
  · rw [h] at z
    cases z
theorem ExtW.trans {ρ1 ρ2 : List Addr} {H1 H2 : Hp} (a : ExtW T ρ H ρ1 H1) (b : ExtW T ρ1 H1 ρ2 H2) : ExtW T ρ H ρ2 H2 where
  pre := by
    obtain ⟨r, rfl⟩ := a.pre
    obtain ⟨r2, rfl⟩ := b.pre
    exact ⟨r ++ r2, by simp⟩
  keepN := fun c o h t n m => b.keepN c o (a.keepN c o h t n m) t (fun z => by
    rcases a.new c z with w | w
    · exact n w
    · rw [h] at w; cases w) m
  new := fun c m => by
    rcases b.new c m with z | z
    · exact a.new c z
    · exact a.gone c z
  gone := fun c m => by
    rcases b.gone c m with z | z
    · exact a.new c z
    · exact a.gone c z
theorem ExtW.at (e : ExtW T ρ H ρ' H') {n : Nat} {a : Addr} (h : ρ[n]? = some a) : ρ'[n]? = some a := by
  obtain ⟨r, rfl⟩ := e.pre
  rw [List.getElem?_append_left (List.getElem?_eq_some_iff.mp h).1]
  exact h
mutual
theorem Rep.monoW (e : ExtW T ρ H ρ' H') : ∀ {v : V} {d : D}, Rep T ρ H v d → Rep T ρ' H' v d
  | _, _, .non => .non
  | _, _, .bl b => .bl b
  | _, _, .int i => .int i
  | _, _, .str s => .str s
  | _, _, .tup h d n r => .tup (e.keep _ _ h n) d (e.out h n) (RepL.monoW e r)
  | _, _, .tupK h r => .tupK h (RepL.monoW e r)
  | _, _, .lst h n r => .lst (e.keep _ _ h n) (e.out h n) (RepL.monoW e r)
  | _, _, .dic h n r => .dic (e.keep _ _ h n) (e.out h n) (RepK.monoW e r)
  | _, _, .ins h c n r => .ins (e.keep _ _ h n) c (e.out h n) (RepF.monoW e r)
  | _, _, .ref h => .ref (e.at h)
  | _, _, .cls h => .cls h
  | _, _, .fn h => .fn h
  | _, _, .scr h n => .scr (e.keep _ _ h n) (e.out h n)
  | _, _, .scrK h => .scrK h
theorem RepL.monoW (e : ExtW T ρ H ρ' H') : ∀ {vs : List V} {ds : List D}, RepL T ρ H vs ds → RepL T ρ' H' vs ds
  | _, _, .nil => .nil
  | _, _, .cons h r => .cons (Rep.monoW e h) (RepL.monoW e r)
theorem RepK.monoW (e : ExtW T ρ H ρ' H') : ∀ {vs : List (Key × V)} {ds : List (D × D)}, RepK T ρ H vs ds → RepK T ρ' H' vs ds
  | _, _, .nil => .nil
  | _, _, .cons h r => .cons (Rep.monoW e h) (RepK.monoW e r)
theorem RepF.monoW (e : ExtW T ρ H ρ' H') : ∀ {vs : List (Str × V)} {ds : List (Str × D)}, RepF T ρ H vs ds → RepF T ρ' H' vs ds
  | _, _, .nil => .nil
  | _, _, .cons h r => .cons (Rep.monoW e h) (RepF.monoW e r)
end
theorem EnvOk.monoW {σ : L2.St} {γ : MP.Env} (h : EnvOk T ρ H σ γ) (e : ExtW T ρ H ρ' H') : EnvOk T ρ' H' σ γ :=
  ⟨h.len, fun i d q => let ⟨v, h1, h2⟩ := h.at_ i d q; ⟨v, h1, h2.tr rfl (fun b o q t n => ⟨e.keepN b o q t n.1 n.2, e.out q n⟩) fun v d r => r.monoW e⟩⟩
/-- new hidden ones were not there -/
abbrev NewH (T : Tab) (H : Hp) (h : List Addr) : Prop := ∀ a ∈ h, a ∈ T.hid ∨ H a = none
/-- a value, or a tuple that is only taken apart -/
def RepW (T : Tab) (ρ : List Addr) (H : Hp) (v : V) (d : D) : Prop := Rep T ρ H v d ∨ ∃ a vs ds, v = .ref a ∧ d = .tup ds ∧ SqT T.K H a vs ∧ RepL T ρ H vs ds
abbrev VRl := Tab → List Addr → Hp → V → D → Prop
/-- nothing, or a new thing -/
def Grow (H H' : Hp) : Prop := H' = H ∨ ∃ p o, H p = none ∧ H' = upd H p o
theorem Grow.ext (g : Grow H H') : Ext ρ H ρ H' := by
  rcases g with rfl | ⟨p, o, hp, rfl⟩
  · exact Ext.refl _ _
  · exact Ext.upd hp
theorem Grow.st (g : Grow H H') {cs : List Cell} (s : StoreOk T ρ H cs) : StoreOk T ρ H' cs := by
  rcases g with rfl | ⟨p, o, hp, rfl⟩
  · exact s
  · exact s.upd hp
/-- a walk over data -/
structure ItOk (T : Tab) (VR : VRl) (J : L2.It) (ρ : List Addr) (H : Hp) (xs : List D) : Prop where
  go : ∀ h ρ' H' i x, NewH T H h → ExtW (T.hide h) ρ H ρ' H' → xs[i]? = some x → J.go i H'
  yld : ∀ h ρ' H' i x v H'', NewH T H h → ExtW (T.hide h) ρ H ρ' H' → xs[i]? = some x → J.yld i H' v H'' → Grow H' H'' ∧ VR (T.hide h) ρ' H'' v x
  stop : ∀ h ρ' H' i, NewH T H h → ExtW (T.hide h) ρ H ρ' H' → xs.length ≤ i → J.stop i H'
/-- what the walk w gives -/
def WkOk (T : Tab) (VR : VRl) (ρ : List Addr) (H : Hp) (w : Wk) (R : L2.It → Hp → Prop) : Prop := match w with
  | .xs xs => ∀ J, ItOk T VR J ρ H xs → R J H
  | .sto n m => ∀ a vs, ρ[n]? = some a → H a = some (.lst vs) → vs.length = m → R (Itl T.K a) H
def iS (T : Tab) (VR : VRl) (f : Evl Wk) : TI := fun σ H R => ∃ ρ fr c γ, StoreOk T ρ H (fr ++ c) ∧ EnvOk T ρ H σ γ ∧ Post T fr (fun ρ1 H1 w => WkOk T VR ρ1 H1 w R) NoW ρ H (f γ fr.length c)
/-- a list of the store, as it stands -/
theorem listAt_rep {fr c : List Cell} {n : Nat} {xs : List D} (h : listAt fr.length c n = some xs) (s : StoreOk T ρ H (fr ++ c)) : ∃ a vs, ρ[n]? = some a ∧ H a = some (.lst vs) ∧ RepL T ρ H vs xs := by
  unfold listAt at h
  cases q : cellAt fr.length c n with
  | none => rw [q] at h; cases h
  | some k =>
    rw [q] at h
    cases k with
    | lst ys =>
      cases h
      obtain ⟨e, _⟩ := cellAt_eq q
      obtain ⟨a, h1, h2⟩ := s.at_ n _ e
      cases h2 with
      | lst ha r => exact ⟨a, _, h1, ha, r⟩
    | ins _ _ => cases h
    | exn _ _ => cases h
theorem RepL.lt {vs : List V} {ds : List D} (r : RepL T ρ H vs ds) {i : Nat} {v : V} {x : D} (hv : vs[i]? = some v) (hx : ds[i]? = some x) : Rep T ρ H v x := by
  obtain ⟨w, h1, h2⟩ := r.get hx
  rw [hv] at h1; cases h1
  exact h2
/-- what stands for good -/
abbrev Good1 (T : Tab) (ρ : List Addr) (H : Hp) (Pr : Hp → Prop) : Prop := ∀ h ρ' H', NewH T H h → ExtW (T.hide h) ρ H ρ' H' → Pr H'
theorem Good1.now {Pr : Hp → Prop} (g : Good1 T ρ H Pr) : Pr H := g T.hid ρ H (fun a ha => .inl ha) (Ext.refl ρ H).wk
theorem Rep.tupA {v : V} {xs : List D} (r : Rep T ρ H v (.tup xs)) : ∃ a vs, v = .ref a ∧ RepL T ρ H vs xs ∧ Good1 T ρ H fun H' => SqT T.K H' a vs := by
  cases r with
  | tup h1 _ n q => exact ⟨_, _, rfl, q, fun h ρ' H' hh e => .inl (.inr ⟨_, e.keep _ _ h1 (n.hide hh h1)⟩)⟩
  | tupK h1 q => exact ⟨_, _, rfl, q, fun h ρ' H' hh e => h1.sq⟩
theorem Rep.lstA {v : V} {xs : List D} (r : Rep T ρ H v (.lst xs)) : ∃ a vs, v = .ref a ∧ RepL T ρ H vs xs ∧ Good1 T ρ H fun H' => SqL T.K H' a vs := by
  cases r with
  | lst h1 n q => exact ⟨_, _, rfl, q, fun h ρ' H' hh e => .inl (.inl (e.keep _ _ h1 (n.hide hh h1)))⟩
theorem Rep.scrA {v : V} {ns : List Int} (r : Rep T ρ H v (.scr ns)) : ∃ a vs, v = .ref a ∧ RepL T ρ H vs (ns.map .int) ∧ Good1 T ρ H fun H' => SqL T.K H' a vs := by
  cases r with
  | scr h1 n => exact ⟨_, _, rfl, RepL.ints ns, fun h ρ' H' hh e => .inl (.inr ⟨_, e.keep _ _ h1 (n.hide hh h1)⟩)⟩
  | scrK h1 => exact ⟨_, _, rfl, RepL.ints ns, fun h ρ' H' hh e => h1.sq⟩
theorem itl_ok {a : Addr} {vs : List V} {xs : List D} (r : RepL T ρ H vs xs) (hs : Good1 T ρ H fun H' => SqL T.K H' a vs) : ItOk T Rep (Itl T.K a) ρ H xs where
  go := fun h ρ' H' i x hh e hx => by
    obtain ⟨v, hv, _⟩ := r.get hx
    exact ⟨vs, v, hs _ _ _ hh e, hv⟩
  yld := fun h ρ' H' i x v H'' hh e hx y => by
    obtain ⟨rfl, hv⟩ := y
    exact ⟨.inl rfl, ((r.lt (hv vs (hs _ _ _ hh e)) hx).hide hh).monoW e⟩
  stop := fun h ρ' H' i hh e hl => ⟨vs, hs _ _ _ hh e, by rw [r.length]; exact hl⟩
theorem itt_ok {a : Addr} {vs : List V} {xs : List D} (r : RepL T ρ H vs xs) (hs : Good1 T ρ H fun H' => SqT T.K H' a vs) : ItOk T Rep (Itt T.K a) ρ H xs where
  go := fun h ρ' H' i x hh e hx => by
    obtain ⟨v, hv, _⟩ := r.get hx
    exact ⟨vs, v, hs _ _ _ hh e, hv⟩
  yld := fun h ρ' H' i x v H'' hh e hx y => by
    obtain ⟨rfl, hv⟩ := y
    exact ⟨.inl rfl, ((r.lt (hv vs (hs _ _ _ hh e)) hx).hide hh).monoW e⟩
  stop := fun h ρ' H' i hh e hl => ⟨vs, hs _ _ _ hh e, by rw [r.length]; exact hl⟩
theorem rngD_get : ∀ {n : Nat} {lo : Int} {i : Nat}, i < n → (rngD lo n)[i]? = some (.int (lo + i))
  | n + 1, lo, 0, _ => by simp [rngD]
  | n + 1, lo, i + 1, h => by
    show (D.int lo :: rngD (lo + 1) n)[i + 1]? = _
    rw [List.getElem?_cons_succ, rngD_get (by omega)]
    congr 2; omega
theorem rngD_len : ∀ {n : Nat} {lo : Int}, (rngD lo n).length = n
  | 0, _ => rfl
  | n + 1, lo => by show (rngD (lo + 1) n).length + 1 = _; rw [rngD_len]
theorem itr_ok {lo : Int} {n : Nat} : ItOk T Rep (Itr lo n) ρ H (rngD lo n) where
  go := fun h ρ' H' i x hh e hx => by
    have := (List.getElem?_eq_some_iff.mp hx).1
    rw [rngD_len] at this
    exact this
  yld := fun h ρ' H' i x v H'' hh e hx y => by
    obtain ⟨rfl, rfl⟩ := y
    have := (List.getElem?_eq_some_iff.mp hx).1
    rw [rngD_len] at this
    rw [rngD_get this] at hx
    cases hx
    exact ⟨.inl rfl, .int _⟩
  stop := fun h ρ' H' i hh e hl => by rw [rngD_len] at hl; exact hl
theorem its_ok {s : Str} : ItOk T Rep (Its s) ρ H (s.cps.toList.map fun k => .str ⟨#[k]⟩) where
  go := fun h ρ' H' i x hh e hx => by
    have := (List.getElem?_eq_some_iff.mp hx).1
    show i < s.cps.size
    simpa using this
  yld := fun h ρ' H' i x v H'' hh e hx y => by
    obtain ⟨rfl, k, hk, rfl⟩ := y
    rw [List.getElem?_map] at hx
    simp [hk] at hx
    subst hx
    exact ⟨.inl rfl, .str _⟩
  stop := fun h ρ' H' i hh e hl => by
    show s.cps.size ≤ i
    simpa using hl
theorem enumD_get : ∀ {xs : List D} {lo : Int} {i : Nat} {x : D}, xs[i]? = some x → (enumD lo xs)[i]? = some (.tup [.int (lo + i), x])
  | y :: ys, lo, 0, x, h => by simp at h; subst h; simp [enumD]
  | y :: ys, lo, i + 1, x, h => by
    show (D.tup [.int lo, y] :: enumD (lo + 1) ys)[i + 1]? = _
    rw [List.getElem?_cons_succ, enumD_get (x := x) (by simpa using h)]
    congr 4; omega
theorem enumD_len : ∀ {xs : List D} {lo : Int}, (enumD lo xs).length = xs.length
  | [], _ => rfl
  | x :: xs, lo => by show (enumD (lo + 1) xs).length + 1 = _; rw [enumD_len]; rfl
theorem ite_ok {a : Addr} {vs : List V} {xs : List D} (r : RepL T ρ H vs xs) (hs : Good1 T ρ H fun H' => SqL T.K H' a vs) : ItOk T RepW (Ite T.K a) ρ H (enumD 0 xs) where
  go := fun h ρ' H' i x hh e hx => by
    have hl := (List.getElem?_eq_some_iff.mp hx).1
    rw [enumD_len] at hl
    obtain ⟨v, hv, _⟩ := r.get (List.getElem?_eq_getElem hl)
    exact ⟨vs, v, hs _ _ _ hh e, hv⟩
  yld := fun h ρ' H' i x v H'' hh e hx y => by
    obtain ⟨p, w, rfl, hp, rfl, hv⟩ := y
    have hl := (List.getElem?_eq_some_iff.mp hx).1
    rw [enumD_len] at hl
    have hg := List.getElem?_eq_getElem hl
    rw [enumD_get hg] at hx
    cases hx
    refine ⟨.inr ⟨p, _, hp, rfl⟩, .inr ⟨p, _, _, rfl, rfl, .inl (.inl upd_same), .cons ?_ (.cons ?_ .nil)⟩⟩
    · have : (0 : Int) + (i : Nat) = (i : Nat) := by omega
      rw [this]; exact .int _
    · exact (((r.lt (hv vs (hs _ _ _ hh e)) hg).hide hh).monoW e).mono (Ext.upd hp)
  stop := fun h ρ' H' i hh e hl => ⟨vs, hs _ _ _ hh e, by rw [r.length]; rw [enumD_len] at hl; exact hl⟩
end

section
variable {T : Tab} {P : Prog} {call : Call} {X : Cx} {a b d e o tg : Expr} {x y z : E} {pos apos : Pos} {σ : L2.St} {fr c : List Cell} {γ : MP.Env} {ρ : List Addr} {H : Hp}
theorem bindOk' {α β : Type} {r : Res α} {k : α → List Cell → Res β} {T : Tab} {fr : List Cell} {R : List Addr → Hp → β → Prop} {ρ : List Addr} {H : Hp} {W : Value → Option Addr → Hp → Prop} (p : Post T fr R W ρ H (r.bind k)) : (∃ a c, r = .ok a c) ∨ ∃ x fs c, r = .exc x fs c := by
  cases r with
  | ok a c => exact .inl ⟨a, c, rfl⟩
  | exc x fs c => exact .inr ⟨x, fs, c, rfl⟩
  | bad => exact p.elim
theorem SI_seq (hK : X.K = T.K) (ha : PE X e (tE T W0 (ev P call x))) : PI X tg e (iS T Rep (evI P call (.seq x))) := by
  refine ⟨fun pins s σ H R I h => ?_⟩
  obtain ⟨ρ, fr, c, γ, st, en, p⟩ := h
  unfold evI at p
  rcases bindOk' p with ⟨dd, c1, hx⟩ | ⟨xx, fs, c1, hx⟩
  · rw [hx] at p
    cases dd with
    | tup xs =>
      refine (pi_tup ha).run pins s σ H R I (tE_mono (tE_val (W := W0) st en hx p) fun v H1 ⟨ρ1, e1, r1, g1⟩ => ?_)
      obtain ⟨a, vs, rfl, rl, hs⟩ := r1.tupA
      exact ⟨a, rfl, ⟨vs, hK ▸ hs.now⟩, g1.p ρ1 H1 (Ext.refl _ _) g1.st _ (hK ▸ itt_ok rl hs)⟩
    | lst xs =>
      refine (pi_list ha).run pins s σ H R I (tE_mono (tE_val (W := W0) st en hx p) fun v H1 ⟨ρ1, e1, r1, g1⟩ => ?_)
      obtain ⟨a, vs, rfl, rl, hs⟩ := r1.lstA
      exact ⟨a, rfl, ⟨vs, hK ▸ hs.now⟩, g1.p ρ1 H1 (Ext.refl _ _) g1.st _ (hK ▸ itl_ok rl hs)⟩
    | scr ns =>
      refine (pi_list ha).run pins s σ H R I (tE_mono (tE_val (W := W0) st en hx p) fun v H1 ⟨ρ1, e1, r1, g1⟩ => ?_)
      obtain ⟨a, vs, rfl, rl, hs⟩ := r1.scrA
      exact ⟨a, rfl, ⟨vs, hK ▸ hs.now⟩, g1.p ρ1 H1 (Ext.refl _ _) g1.st _ (hK ▸ itl_ok rl hs)⟩
    | ref n =>
      refine (pi_list ha).run pins s σ H R I (tE_mono (tE_val (W := W0) st en hx p) fun v H1 ⟨ρ1, e1, r1, g1⟩ => ?_)
      have g2 : Got T W0 σ fr γ (fun ρ1 H1 w => WkOk T Rep ρ1 H1 w R) ρ1 H1 c1 (match listAt fr.length c1 n with
        | some xs => .ok (.sto n xs.length) c1
        | none => .bad) := g1
      cases hl : listAt fr.length c1 n with
      | none => rw [hl] at g2; exact g2.bad.elim
      | some xs =>
        rw [hl] at g2
        obtain ⟨a, vs, h1, h2, h3⟩ := listAt_rep hl g2.st
        cases r1 with
        | ref h4 =>
          rw [h1] at h4; cases h4
          exact ⟨a, rfl, ⟨vs, SqL.of h2⟩, hK ▸ g2.p ρ1 H1 (Ext.refl _ _) g2.st a vs h1 h2 h3.length⟩
    | str z =>
      refine (pi_str ha).run pins s σ H R I (tE_mono (tE_val (W := W0) st en hx p) fun v H1 ⟨ρ1, e1, r1, g1⟩ => ?_)
      cases r1
      exact ⟨_, rfl, g1.p ρ1 H1 (Ext.refl _ _) g1.st _ its_ok⟩
    | _ => exact p.elim
  · rw [hx] at p
    refine (pi_list ha).run pins s σ H R I ⟨ρ, fr, c, γ, st, en, ?_⟩
    rw [hx]
    exact p
theorem SI_rng1 {p2 : Pos} (hg : Gl X "range") (hm : X.mg "range" = none) (ha : PE X e (tE T W0 (ev P call x))) (hn : ∀ y q, e ≠ .Starred y q) : PI X tg (.Call (.Name "range" p2) [e] [] pos) (iS T Rep (evI P call (.rng x))) := by
  have s1 := starEach_cons e [] X.env hn
  refine ⟨fun pins s σ H R I h => ?_⟩
  refine (pi_range1 hg hm (pa_cons ha pa_nil s1) s1).run pins s σ H R I ?_
  obtain ⟨ρ, fr, c, γ, st, en, p⟩ := h
  unfold evI at p
  refine tE_mono (tE_step (W := W0) ⟨st, en, p⟩) fun v H1 ⟨ρ1, c1, dd, e1, r1, g1⟩ => ?_
  cases dd with
  | int j =>
    cases r1
    have g2 : Got T W0 σ fr γ (fun ρ1 H1 w => WkOk T Rep ρ1 H1 w R) ρ1 H1 c1 (if small62 j then .ok (.xs (rngD 0 j.toNat)) c1 else .bad) := g1
    by_cases hz : small62 j = true
    · rw [if_pos hz] at g2
      unfold small62 at hz
      simp only [Bool.and_eq_true, decide_eq_true_eq] at hz
      exact ⟨j, rfl, hz.1, hz.2, g2.p ρ1 H1 (Ext.refl _ _) g2.st _ itr_ok⟩
    · rw [if_neg hz] at g2; exact g2.bad.elim
  | _ => exact g1.bad.elim
theorem SI_rng2 {p2 : Pos} (hg : Gl X "range") (hm : X.mg "range" = none) (ha : PE X a (tE T W0 (ev P call x))) (hb : PE X b (tE T W0 (ev P call y))) (hn : ∀ y q, a ≠ .Starred y q) (hn2 : ∀ y q, b ≠ .Starred y q) : PI X tg (.Call (.Name "range" p2) [a, b] [] pos) (iS T Rep (evI P call (.rng2 x y))) := by
  have s1 := starEach_cons a [b] X.env hn
  have s2 := starEach_cons b [] X.env hn2
  refine ⟨fun pins s σ H R I h => ?_⟩
  refine (pi_range2 hg hm (pa_cons ha (pa_cons hb pa_nil s2) s1) (s1.trans (by rw [s2]; rfl)) s2).run pins s σ H R I ?_
  obtain ⟨ρ, fr, c, γ, st, en, p⟩ := h
  unfold evI at p
  refine tE_mono (tE_step (W := W0) ⟨st, en, p⟩) fun v H1 ⟨ρ1, c1, d1, e1, r1, g1⟩ => ?_
  refine tE_mono (tE_step g1) fun w H2 ⟨ρ2, c2, d2, e2, r2, g2⟩ => ?_
  cases d1 with
  | int i =>
    cases d2 with
    | int j =>
      cases r1; cases r2
      have g3 : Got T W0 σ fr γ (fun ρ1 H1 w => WkOk T Rep ρ1 H1 w R) ρ2 H2 c2 (if small62 i && small62 j then .ok (.xs (rngD i (j - i).toNat)) c2 else .bad) := g2
      by_cases hz : (small62 i && small62 j) = true
      · rw [if_pos hz] at g3
        unfold small62 at hz
        simp only [Bool.and_eq_true, decide_eq_true_eq] at hz
        exact ⟨i, j, rfl, ⟨hz.1.1, hz.1.2, hz.2.1, hz.2.2⟩, g3.p ρ2 H2 (Ext.refl _ _) g3.st _ itr_ok⟩
      · rw [if_neg hz] at g3; exact g3.bad.elim
    | _ => exact g2.bad.elim
  | _ => cases d2 <;> exact g2.bad.elim
/-- a target's store, of a turn's value -/
def gV (T : Tab) (VR : VRl) (tg : Tg) : TG := fun v σ H Q => ∃ ρ c γ γ' dd, StoreOk T ρ H c ∧ EnvOk T ρ H σ γ ∧ VR T ρ H v dd ∧ asgT tg dd γ = some γ' ∧ ∀ σ', EnvOk T ρ H σ' γ' → Kept σ σ' (tgIx tg) → Q σ' H
theorem SV_rep {t : Tg} (h : PG X tg (gA T t)) : PG X tg (gV T Rep t) := h
theorem SV_tp (hK : X.K = T.K) (hc : X.calm = true) (hN : X.N.Nodup) {es : List Expr} {is : List Nat} {k : Nat} (h : NmL X es is) : PG X (.Tuple es k pos) (gV T RepW (.tp is)) := by
  refine ⟨fun pins s σ H v u Q I rv hh => ?_⟩
  obtain ⟨ρ, c, γ, γ', dd, st, en, r, ha, q⟩ := hh
  rcases r with r | ⟨a, vs, ds, rfl, rfl, hs, rl⟩
  · exact (SG_tp hK hc hN h).run pins s σ H v u Q I rv ⟨ρ, c, γ, γ', dd, st, en, r, ha, q⟩
  · have hl := asgL_len ha
    exact (pg_tup hc (h.pgs (T := T) hN) h.plain.1 h.plain.2).run pins s σ H _ u Q I rv ⟨a, vs, rfl, hK ▸ hs, by rw [rl.length, hl, h.len], ρ, c, γ, γ', ds, st, en, rl, ha, q⟩
def stepF (P : Prog) (call : Call) (t : Tg) (body : Ss) : D → MP.Env → Nat → List Cell → Res Fl := fun x γ b c => match asgT t x γ with
  | some γ => evSs P call body γ b c
  | none => .bad
theorem hide_self : T.hide T.hid = T := rfl
theorem SS_for {VR : VRl} (hv : ∀ T ρ H v d, Rep T ρ H v d → VR T ρ H v d) {iter : Expr} {it : It} {t : Tg} {body : List Stmt} {xb : Ss} (hK : X.K = T.K) (hc : X.calm = true) (hp : PassesOwn (model X.prog X.w) X.A X.env X.xe) (hi : PI X tg iter (iS T VR (evI P call it))) (hg : PG X tg (gV T VR t)) (hb : PSs X body (tS T (evSs P call xb)))
    (hs : ∀ x, foldedSetIterable iter X.env x = pure x) : PS X (.For tg iter body [] pos) (tS T (evS P call (.for t it xb))) := by
  refine (ps_for hp hc hi hg hb hs).mono fun D σ H h => ?_
  obtain ⟨ρ, fr, c, γ, st, en, p⟩ := h
  have p : Post T fr (RFl T D) NoW ρ H ((evI P call it γ fr.length c).bind fun w c => forW (stepF P call t xb) fr.length w γ c) := p
  refine ⟨ρ, fr, c, γ, st, en, p.bind.imp fun ρ1 H1 w e01 ⟨c1, e1, s1, _, q⟩ => ?_⟩
  cases w with
  | xs xs =>
    intro J hJ
    have q : Post T fr (RFl T D) NoW ρ1 H1 (forL (stepF P call t xb) fr.length xs γ c1) := q
    let Wf : Nat → Nat → L2.St → Hp → Prop := fun i m σ' H' => ∃ ρ' c' γ', Ext ρ1 H1 ρ' H' ∧ StoreOk T ρ' H' (fr ++ c') ∧ EnvOk T ρ' H' σ' γ' ∧ m + i = xs.length ∧ Post T fr (RFl T D) NoW ρ' H' (forL (stepF P call t xb) fr.length (xs.drop i) γ' c')
    refine ⟨Wf, ⟨xs.length, ρ1, c1, γ, Ext.refl _ _, s1, en.mono e1, rfl, by rw [List.drop_zero]; exact q⟩, fun i m σ' H' w => ?_⟩
    obtain ⟨ρ', c', γ', e2, s2, en2, hm, q2⟩ := w
    by_cases hi : i < xs.length
    · refine .inr ⟨hJ.go T.hid ρ' H' i _ (fun a ha => .inl ha) e2.wk (List.getElem?_eq_getElem hi), Wf (i + 1) (m - 1), fun σ3 H3 w3 => ⟨m - 1, by omega, w3⟩, fun v H3 hy => ?_⟩
      obtain ⟨gr, vr⟩ := hJ.yld T.hid ρ' H' i _ v H3 (fun a ha => .inl ha) e2.wk (List.getElem?_eq_getElem hi) hy
      have e3 : Ext ρ' H' ρ' H3 := gr.ext
      have s3 := gr.st s2
      rw [List.drop_eq_getElem_cons hi] at q2
      have q3 : Post T fr (RFl T D) NoW ρ' H3 ((stepF P call t xb xs[i] γ' fr.length c').bind fun f c => match f with
        | .nx γ => forL (stepF P call t xb) fr.length (xs.drop (i + 1)) γ c
        | .ct γ => forL (stepF P call t xb) fr.length (xs.drop (i + 1)) γ c
        | .bk γ => .ok (.nx γ) c
        | .rt d => .ok (.rt d) c) := q2.later e3
      cases ha : asgT t xs[i] γ' with
      | none =>
        have : stepF P call t xb xs[i] γ' fr.length c' = .bad := by unfold stepF; rw [ha]
        rw [this] at q3
        exact q3.elim
      | some γ2 =>
        have hst : stepF P call t xb xs[i] γ' fr.length c' = evSs P call xb γ2 fr.length c' := by unfold stepF; rw [ha]
        rw [hst] at q3
        refine ⟨ρ', fr ++ c', γ', γ2, xs[i], s3, en2.mono e3, vr, ha, fun σ4 en4 _ => ?_⟩
        refine ⟨ρ', fr, c', γ2, s3, en4, q3.bind.imp fun ρ5 H5 fl _ ⟨c5, e5, s5, _, q5⟩ => ?_⟩
        have e25 : Ext ρ1 H1 ρ5 H5 := (e2.trans e3).trans e5
        cases fl with
        | nx γ6 => exact fun σ6 en6 => ⟨ρ5, c5, γ6, e25, s5, en6, by omega, q5⟩
        | ct γ6 => exact fun σ6 en6 => ⟨ρ5, c5, γ6, e25, s5, en6, by omega, q5⟩
        | bk γ6 => exact fun σ6 en6 => q5 ρ5 H5 (Ext.refl _ _) s5 σ6 en6
        | rt d6 => exact fun v6 r6 => q5 ρ5 H5 (Ext.refl _ _) s5 v6 r6
    · refine .inl ⟨hJ.stop T.hid ρ' H' i (fun a ha => .inl ha) e2.wk (by omega), ?_⟩
      rw [List.drop_eq_nil_of_le (by omega)] at q2
      exact q2 ρ' H' (Ext.refl _ _) s2 σ' en2
  | sto n len =>
    intro a vs0 ha0 hH0 hl0
    have q : Post T fr (RFl T D) NoW ρ1 H1 (forS (stepF P call t xb) fr.length n len 0 γ c1) := q
    let Wf : Nat → Nat → L2.St → Hp → Prop := fun i m σ' H' => ∃ ρ' c' γ', Ext ρ1 H1 ρ' H' ∧ StoreOk T ρ' H' (fr ++ c') ∧ EnvOk T ρ' H' σ' γ' ∧ Post T fr (RFl T D) NoW ρ' H' (forS (stepF P call t xb) fr.length n m i γ' c')
    refine ⟨Wf, ⟨len, ρ1, c1, γ, Ext.refl _ _, s1, en.mono e1, q⟩, fun i m σ' H' w => ?_⟩
    obtain ⟨ρ', c', γ', e2, s2, en2, q2⟩ := w
    have ha' := e2.at ha0
    cases hl : listAt fr.length c' n with
    | none =>
      have bad : forS (stepF P call t xb) fr.length n m i γ' c' = .bad := by
        cases m with
        | zero => unfold forS; rw [hl]
        | succ k => unfold forS; rw [hl]; rfl
      rw [bad] at q2
      exact q2.elim
    | some xs =>
      obtain ⟨a', vs, h1, h2, h3⟩ := listAt_rep hl s2
      rw [ha'] at h1; cases h1
      cases m with
      | zero =>
        have q3 : Post T fr (RFl T D) NoW ρ' H' (if xs.length ≤ i then .ok (.nx γ') c' else .bad) := by
          unfold forS at q2
          rw [hl] at q2
          exact q2
        by_cases hz : xs.length ≤ i
        · rw [if_pos hz] at q3
          exact .inl ⟨⟨vs, SqL.of h2, by rw [h3.length]; exact hz⟩, q3 ρ' H' (Ext.refl _ _) s2 σ' en2⟩
        · rw [if_neg hz] at q3; exact q3.elim
      | succ k =>
        unfold forS at q2
        rw [hl] at q2
        cases hx : xs[i]? with
        | none =>
          have q3 : Post T fr (RFl T D) NoW ρ' H' (match xs[i]? with
            | some x => (stepF P call t xb x γ' fr.length c').bind fun f c => (match f with
              | .nx γ => forS (stepF P call t xb) fr.length n k (i + 1) γ c
              | .ct γ => forS (stepF P call t xb) fr.length n k (i + 1) γ c
              | .bk γ => .ok (.nx γ) c
              | .rt d => .ok (.rt d) c)
            | none => .bad) := q2
          rw [hx] at q3; exact q3.elim
        | some x =>
          have q3 : Post T fr (RFl T D) NoW ρ' H' (match xs[i]? with
            | some x => (stepF P call t xb x γ' fr.length c').bind fun f c => (match f with
              | .nx γ => forS (stepF P call t xb) fr.length n k (i + 1) γ c
              | .ct γ => forS (stepF P call t xb) fr.length n k (i + 1) γ c
              | .bk γ => .ok (.nx γ) c
              | .rt d => .ok (.rt d) c)
            | none => .bad) := q2
          rw [hx] at q3
          obtain ⟨v0, hv0, rv0⟩ := h3.get hx
          refine .inr ⟨⟨vs, v0, SqL.of h2, hv0⟩, Wf (i + 1) k, fun σ3 H3 w3 => ⟨k, by omega, w3⟩, fun v H3 hy => ?_⟩
          obtain ⟨rfl, hy2⟩ := hy
          have ev : vs[i]? = some v := hy2 vs (SqL.of h2)
          rw [hv0] at ev; cases ev
          cases hasg : asgT t x γ' with
          | none =>
            have : stepF P call t xb x γ' fr.length c' = .bad := by unfold stepF; rw [hasg]
            have q4 : Post T fr (RFl T D) NoW ρ' H3 ((stepF P call t xb x γ' fr.length c').bind _) := q3
            rw [this] at q4
            exact q4.elim
          | some γ2 =>
            have hst : stepF P call t xb x γ' fr.length c' = evSs P call xb γ2 fr.length c' := by unfold stepF; rw [hasg]
            have q4 : Post T fr (RFl T D) NoW ρ' H3 ((stepF P call t xb x γ' fr.length c').bind _) := q3
            rw [hst] at q4
            refine ⟨ρ', fr ++ c', γ', γ2, x, s2, en2, hv _ _ _ _ _ rv0, hasg, fun σ4 en4 _ => ?_⟩
            refine ⟨ρ', fr, c', γ2, s2, en4, q4.bind.imp fun ρ5 H5 fl _ ⟨c5, e5, s5, _, q5⟩ => ?_⟩
            have e25 : Ext ρ1 H1 ρ5 H5 := e2.trans e5
            cases fl with
            | nx γ6 => exact fun σ6 en6 => ⟨ρ5, c5, γ6, e25, s5, en6, q5⟩
            | ct γ6 => exact fun σ6 en6 => ⟨ρ5, c5, γ6, e25, s5, en6, q5⟩
            | bk γ6 => exact fun σ6 en6 => q5 ρ5 H5 (Ext.refl _ _) s5 σ6 en6
            | rt d6 => exact fun v6 r6 => q5 ρ5 H5 (Ext.refl _ _) s5 v6 r6
end
end MP
end
section
set_option maxRecDepth 100000
set_option maxHeartbeats 1000000
namespace MP
open PySem PySem.Spec PyProof.Rows L2

section
variable {T : Tab} {ρ ρ' : List Addr} {H H' : Hp} {h : List Addr} {D0 : Addr} {o : HO}
theorem Out.ne {a : Addr} (hD : D0 ∈ T.hid) (n : Out T ρ a) : a ≠ D0 := fun z => n.2 (z ▸ hD)
mutual
theorem Rep.updD (hD : D0 ∈ T.hid) : ∀ {v : V} {d : D}, Rep T ρ H v d → Rep T ρ (L2.upd H D0 o) v d
  | _, _, .non => .non
  | _, _, .bl b => .bl b
  | _, _, .int i => .int i
  | _, _, .str s => .str s
  | _, _, .tup e d n q => .tup (by rw [upd_ne (n.ne hD)]; exact e) d n (RepL.updD hD q)
  | _, _, .tupK e q => .tupK e (RepL.updD hD q)
  | _, _, .lst e n q => .lst (by rw [upd_ne (n.ne hD)]; exact e) n (RepL.updD hD q)
  | _, _, .dic e n q => .dic (by rw [upd_ne (n.ne hD)]; exact e) n (RepK.updD hD q)
  | _, _, .ins e c n q => .ins (by rw [upd_ne (n.ne hD)]; exact e) c n (RepF.updD hD q)
  | _, _, .ref e => .ref e
  | _, _, .cls e => .cls e
  | _, _, .fn e => .fn e
  | _, _, .scr e n => .scr (by rw [upd_ne (n.ne hD)]; exact e) n
  | _, _, .scrK e => .scrK e
theorem RepL.updD (hD : D0 ∈ T.hid) : ∀ {vs : List V} {ds : List D}, RepL T ρ H vs ds → RepL T ρ (L2.upd H D0 o) vs ds
  | _, _, .nil => .nil
  | _, _, .cons e q => .cons (Rep.updD hD e) (RepL.updD hD q)
theorem RepK.updD (hD : D0 ∈ T.hid) : ∀ {vs : List (Key × V)} {ds : List (D × D)}, RepK T ρ H vs ds → RepK T ρ (L2.upd H D0 o) vs ds
  | _, _, .nil => .nil
  | _, _, .cons e q => .cons (Rep.updD hD e) (RepK.updD hD q)
theorem RepF.updD (hD : D0 ∈ T.hid) : ∀ {vs : List (Str × V)} {ds : List (Str × D)}, RepF T ρ H vs ds → RepF T ρ (L2.upd H D0 o) vs ds
  | _, _, .nil => .nil
  | _, _, .cons e q => .cons (Rep.updD hD e) (RepF.updD hD q)
end
theorem Out.adopt {a : Addr} (n : Out (T.hide (D0 :: T.hid)) ρ a) : Out T (ρ ++ [D0]) a := by
  refine ⟨fun m => ?_, fun m => n.2 (List.mem_cons_of_mem _ m)⟩
  rcases List.mem_append.mp m with z | z
  · exact n.1 z
  · have : a = D0 := by simpa using z
    exact n.2 (by rw [this]; exact List.mem_cons_self)
theorem at_app {n : Nat} {a : Addr} (e : ρ[n]? = some a) : (ρ ++ [D0])[n]? = some a := by
  rw [List.getElem?_append_left (List.getElem?_eq_some_iff.mp e).1]; exact e
mutual
theorem Rep.adopt : ∀ {v : V} {d : D}, Rep (T.hide (D0 :: T.hid)) ρ H v d → Rep T (ρ ++ [D0]) H v d
  | _, _, .non => .non
  | _, _, .bl b => .bl b
  | _, _, .int i => .int i
  | _, _, .str s => .str s
  | _, _, .tup e d n q => .tup e d n.adopt (RepL.adopt q)
  | _, _, .tupK e q => .tupK e (RepL.adopt q)
  | _, _, .lst e n q => .lst e n.adopt (RepL.adopt q)
  | _, _, .dic e n q => .dic e n.adopt (RepK.adopt q)
  | _, _, .ins e c n q => .ins e c n.adopt (RepF.adopt q)
  | _, _, .ref e => .ref (at_app e)
  | _, _, .cls e => .cls e
  | _, _, .fn e => .fn e
  | _, _, .scr e n => .scr e n.adopt
  | _, _, .scrK e => .scrK e
theorem RepL.adopt : ∀ {vs : List V} {ds : List D}, RepL (T.hide (D0 :: T.hid)) ρ H vs ds → RepL T (ρ ++ [D0]) H vs ds
  | _, _, .nil => .nil
  | _, _, .cons e q => .cons (Rep.adopt e) (RepL.adopt q)
theorem RepK.adopt : ∀ {vs : List (Key × V)} {ds : List (D × D)}, RepK (T.hide (D0 :: T.hid)) ρ H vs ds → RepK T (ρ ++ [D0]) H vs ds
  | _, _, .nil => .nil
  | _, _, .cons e q => .cons (Rep.adopt e) (RepK.adopt q)
theorem RepF.adopt : ∀ {vs : List (Str × V)} {ds : List (Str × D)}, RepF (T.hide (D0 :: T.hid)) ρ H vs ds → RepF T (ρ ++ [D0]) H vs ds
  | _, _, .nil => .nil
  | _, _, .cons e q => .cons (Rep.adopt e) (RepF.adopt q)
end
def Cell.plain : Cell → Bool
  | .exn _ _ => false
  | _ => true
theorem CellAt.hide {a : Addr} {c : Cell} (hh : ∀ a ∈ h, a ∈ T.hid ∨ H a = none) (q : CellAt T ρ H a c) : CellAt (T.hide h) ρ H a c := by
  cases q with
  | lst e q => exact .lst e (RepL.hide hh q)
  | ins e c q => exact .ins e c (RepF.hide hh q)
  | exn0 e c => exact .exn0 e c
  | exn e d n c q z => exact .exn e d n c (RepF.hide hh q) z
theorem CellAt.unhide {a : Addr} {c : Cell} (hh : ∀ a ∈ T.hid, a ∈ h) (q : CellAt (T.hide h) ρ H a c) : CellAt T ρ H a c := by
  cases q with
  | lst e q => exact .lst e (RepL.unhide hh q)
  | ins e c q => exact .ins e c (RepF.unhide hh q)
  | exn0 e c => exact .exn0 e c
  | exn e d n c q z => exact .exn e d n c (RepF.unhide hh q) z
theorem CellAt.updD {a : Addr} {c : Cell} {u : HO} (hD : D0 ∈ T.hid) (hu : H D0 = some u) (n2 : ∀ φ, u ≠ .ext φ) (hne : a ≠ D0) (q : CellAt T ρ H a c) : CellAt T ρ (L2.upd H D0 o) a c := by
  cases q with
  | lst e q => exact .lst (by rw [upd_ne hne]; exact e) (RepL.updD hD q)
  | ins e k q => exact .ins (by rw [upd_ne hne]; exact e) k (RepF.updD hD q)
  | exn0 e k => exact .exn0 (by rw [upd_ne hne]; exact e) k
  | exn e d n k q z =>
    refine .exn (by rw [upd_ne hne]; exact e) ?_ n k (RepF.updD hD q) z
    rw [upd_ne (fun w => ?_)]
    · exact d
    · rw [w] at d
      exact n2 _ (Option.some.inj (hu.symm.trans d))
theorem CellAt.adopt {a : Addr} {c : Cell} {vs : List V} (hD : H D0 = some (.lst vs)) (q : CellAt (T.hide (D0 :: T.hid)) ρ H a c) : CellAt T (ρ ++ [D0]) H a c := by
  cases q with
  | lst e q => exact .lst e (RepL.adopt q)
  | ins e k q => exact .ins e k (RepF.adopt q)
  | exn0 e k => exact .exn0 e k
  | exn e d n k q z =>
    refine .exn e d (fun m => ?_) k (RepF.adopt q) z
    rcases List.mem_append.mp m with m | m
    · exact n m
    · rw [List.mem_singleton.mp m, hD] at d
      cases d
theorem EnvOk.hide {σ : L2.St} {γ : MP.Env} (hh : ∀ a ∈ h, a ∈ T.hid ∨ H a = none) (q : EnvOk T ρ H σ γ) : EnvOk (T.hide h) ρ H σ γ :=
  ⟨q.len, fun i d e => let ⟨v, h1, h2⟩ := q.at_ i d e; ⟨v, h1, RepA.tr (T := T) (T' := T.hide h) (ρ := ρ) (ρ' := ρ) (H := H) (H' := H) rfl (fun b o q t n => ⟨q, n.hide hh q⟩) (fun v d r => r.hide hh) h2⟩⟩
theorem StoreOk.unhide {cs : List Cell} (hh : ∀ a ∈ T.hid, a ∈ h) (s : StoreOk (T.hide h) ρ H cs) : StoreOk T ρ H cs :=
  ⟨s.len, s.nd, fun n c e => let ⟨a, h1, h2⟩ := s.at_ n c e; ⟨a, h1, h2.unhide hh⟩, s.tb, fun a ha => s.hd a (hh a ha), fun a ha => s.hx a (hh a ha)⟩
/-- a list begins, hidden -/
theorem StoreOk.begin {cs : List Cell} (s : StoreOk T ρ H cs) (hD : H D0 = none) (no : ∀ φ, o ≠ .ext φ := by intro _ z; cases z) : StoreOk (T.hide (D0 :: T.hid)) ρ (L2.upd H D0 o) cs := by
  have s2 := s.upd (o := o) hD
  have hh : ∀ a ∈ D0 :: T.hid, a ∈ T.hid ∨ H a = none := fun a ha => by
    rcases List.mem_cons.mp ha with z | z
    · exact .inr (z ▸ hD)
    · exact .inl z
  refine ⟨s.len, s.nd, fun n c e => ?_, s2.tb, fun a ha => ?_, fun a ha φ q => ?_⟩
  · obtain ⟨a, h1, h2⟩ := s.at_ n c e
    obtain ⟨u, hu⟩ := h2.there
    exact ⟨a, h1, (h2.hide hh).keep (Ext.upd hD) (upd_ne (ne_of_none hu hD))⟩
  · rcases List.mem_cons.mp ha with z | z
    · refine ⟨by rw [z, upd_same]; simp, fun m => ?_⟩
      rw [z] at m
      obtain ⟨u, hu⟩ := s.there m
      rw [hD] at hu; cases hu
    · exact s2.hd a z
  · rcases List.mem_cons.mp ha with z | z
    · rw [z, upd_same] at q; exact no φ (Option.some.inj q)
    · exact s2.hx a z φ q
theorem StoreOk.updD {cs : List Cell} {u : HO} (s : StoreOk T ρ H cs) (hD : D0 ∈ T.hid) (hu : H D0 = some u) (n1 : ∀ ps, u ≠ .tbl ps) (n2 : ∀ φ, u ≠ .ext φ) (no : ∀ φ, o ≠ .ext φ := by intro _ z; cases z) : StoreOk T ρ (L2.upd H D0 o) cs := by
  refine ⟨s.len, s.nd, fun n c e => ?_, tabs_write s.tb hu n1 n2, hid_upd s.hd, fun a ha φ q => ?_⟩
  rotate_left
  · by_cases z : a = D0
    · rw [z, upd_same] at q; exact no φ (Option.some.inj q)
    · rw [upd_ne z] at q; exact s.hx a ha φ q
  obtain ⟨a, h1, h2⟩ := s.at_ n c e
  have hne : a ≠ D0 := fun z => (s.hd D0 hD).2 (by rw [← z]; exact List.mem_of_getElem? h1)
  exact ⟨a, h1, h2.updD hD hu n2 hne⟩
theorem Ext.updD {H1 : Hp} {ρ1 : List Addr} (e : Ext ρ1 H1 ρ H) (hD : H1 D0 = none) (hn : D0 ∉ ρ) : Ext ρ1 H1 ρ (L2.upd H D0 o) where
  pre := e.pre
  keepN := fun a u q t n => by rw [upd_ne (ne_of_none q hD)]; exact e.keepN a u q t n
  new := e.new
  gone := fun a z => by
    by_cases q : a = D0
    · exact .inr (q ▸ hD)
    · rw [upd_ne q] at z; exact e.gone a z
theorem StoreOk.adopt {cs : List Cell} {vs : List V} {ds : List D} (s : StoreOk (T.hide (D0 :: T.hid)) ρ H cs) (hD : H D0 = some (.lst vs)) (r : RepL (T.hide (D0 :: T.hid)) ρ H vs ds) (hn : D0 ∉ T.hid) : StoreOk T (ρ ++ [D0]) H (cs ++ [.lst ds]) := by
  have hd0 := s.hd D0 List.mem_cons_self
  refine ⟨by simp [s.len], ?_, fun n c e => ?_, s.tb, fun a ha => ?_, fun a ha => s.hx a (List.mem_cons_of_mem _ ha)⟩
  · rw [List.nodup_append]
    refine ⟨s.nd, by simp, fun a ha b hb => ?_⟩
    have e : b = D0 := by simpa using hb
    rw [e]
    exact fun z => hd0.2 (z ▸ ha)
  · by_cases hm : n < cs.length
    · rw [List.getElem?_append_left hm] at e
      obtain ⟨a, h1, h2⟩ := s.at_ n c e
      exact ⟨a, at_app h1, h2.adopt hD⟩
    · rw [List.getElem?_append_right (by omega)] at e
      have hz : n - cs.length = 0 := by
        cases q : n - cs.length with
        | zero => rfl
        | succ k => rw [q] at e; simp at e
      rw [hz] at e
      have ec : c = .lst ds := by simpa using e.symm
      subst ec
      refine ⟨D0, ?_, .lst hD (RepL.adopt r)⟩
      have hl : ρ.length = cs.length := s.len
      rw [List.getElem?_append_right (by omega), show n - ρ.length = 0 by omega]
      rfl
  · have h1 := s.hd a (List.mem_cons_of_mem _ ha)
    refine ⟨h1.1, fun m => ?_⟩
    rcases List.mem_append.mp m with m | m
    · exact h1.2 m
    · have w : a = D0 := by simpa using m
      exact hn (w ▸ ha)
theorem ExtW.more {hs : List Addr} (e : ExtW (T.hide [D0]) ρ H ρ' H') (hD : D0 ∈ hs) : ExtW (T.hide hs) ρ H ρ' H' :=
  ⟨e.pre, fun a o h t n m => e.keepN a o h t n (fun z => m (by rw [List.mem_singleton.mp z]; exact hD)), e.new, e.gone⟩
theorem ExtW.strong (e : ExtW (T.hide [D0]) ρ H ρ' H') (hD : H D0 = none) : Ext ρ H ρ' H' :=
  ⟨e.pre, fun a o h t n => e.keepN a o h t n (fun z => by rw [List.mem_singleton.mp z, hD] at h; cases h), e.new, e.gone⟩
theorem ExtW.updH (hD : D0 ∈ T.hid) : ExtW T ρ H ρ (L2.upd H D0 o) where
  pre := ⟨[], by simp⟩
  keepN := fun a u e _ n m => by
    have hne : a ≠ D0 := fun z => m (by rw [z]; exact hD)
    rw [upd_ne hne]
    exact e
  new := fun a m => .inl m
  gone := fun a z => .inr (by
    by_cases w : a = D0
    · rw [w, upd_same] at z
      cases z
    · rw [upd_ne w] at z
      exact z)
theorem wipeE_len (γ : MP.Env) : ∀ vs : List Nat, (wipeE γ vs).length = γ.length
  | [] => rfl
  | v :: vs => by show ((wipeE γ vs).set v none).length = _; rw [List.length_set, wipeE_len γ vs]
theorem EnvOk.wipe {σ : L2.St} {γ : MP.Env} (q : EnvOk T ρ H σ γ) : ∀ vs : List Nat, EnvOk T ρ H (L2.wipe σ vs) (wipeE γ vs)
  | [] => q
  | v :: vs => by
    have ih := EnvOk.wipe q vs
    refine ⟨by show ((wipeE γ vs).set v none).length = ((L2.wipe σ vs).set v none).length; rw [List.length_set, List.length_set]; exact ih.len, fun i d e => ?_⟩
    have e' : ((wipeE γ vs).set v none)[i]? = some (some d) := e
    by_cases hi : i = v
    · subst hi
      rw [List.getElem?_set] at e'
      simp at e'
    · rw [List.getElem?_set_ne (Ne.symm hi)] at e'
      obtain ⟨w, h1, h2⟩ := ih.at_ i d e'
      exact ⟨w, by show ((L2.wipe σ vs).set v none)[i]? = _; rw [List.getElem?_set_ne (Ne.symm hi)]; exact h1, h2⟩
theorem wipe_at (σ : L2.St) : ∀ (vs : List Nat) (j : Nat), (L2.wipe σ vs)[j]? = if j ∈ vs ∧ j < σ.length then some none else σ[j]?
  | [], j => by simp [L2.wipe]
  | v :: vs, j => by
    show ((L2.wipe σ vs).set v none)[j]? = _
    rw [List.getElem?_set, L2.wipe_length, wipe_at σ vs j]
    by_cases hv : v = j
    · subst hv
      by_cases hl : v < σ.length
      · simp [hl]
      · simp [hl]
    · have : j ∈ v :: vs ↔ j ∈ vs := by simp [Ne.symm hv]
      simp [hv, this]
theorem wipe_kept {σ σ2 : L2.St} {vs is : List Nat} (k : Kept (L2.wipe σ vs) σ2 is) (hs : ∀ i ∈ is, i ∈ vs) : L2.wipe σ2 vs = L2.wipe σ vs := by
  refine List.ext_getElem? fun j => ?_
  rw [wipe_at, wipe_at]
  have hl : σ2.length = σ.length := by rw [k.1, L2.wipe_length]
  rw [hl]
  by_cases hj : j ∈ vs
  · by_cases h2 : j < σ.length
    · simp [hj, h2]
    · rw [if_neg (fun z => h2 z.2), if_neg (fun z => h2 z.2), List.getElem?_eq_none (by omega), List.getElem?_eq_none (by omega)]
  · rw [if_neg (fun z => hj z.1), if_neg (fun z => hj z.1), k.2 j (fun z => hj (hs j z)), wipe_at, if_neg (fun z => hj z.1)]
end
def stepC (P : Prog) (call : Call) (elt : E) (t : Tg) (ifs : To) (own : List Nat) (γ : MP.Env) : D → Nat → List Cell → Res (Option D) := fun x b c => match asgT t x (wipeE γ own) with
  | some γ' => (evC P call ifs γ' b c).bind fun k c => if k then (ev P call elt γ' b c).bind fun y c => .ok (some y) c else .ok none c
  | none => .bad
theorem noExc_bind {α β : Type} (r : Res α) (k : α → List Cell → Res β) : noExc (r.bind k) = (noExc r).bind fun a c => noExc (k a c) := by cases r <;> rfl
theorem bind_assoc {α β δ : Type} (r : Res α) (f : α → List Cell → Res β) (g : β → List Cell → Res δ) : (r.bind f).bind g = r.bind fun a c => (f a c).bind g := by cases r <;> rfl
def newK (m : Bool) (b : Nat) : List D → List Cell → Res D := fun ys c => newLst m ys b c
section
variable {T : Tab} {P : Prog} {call : Call} {X : Cx} {tg elt : Expr} {x : E} {pos : Pos} {σ : L2.St} {fr c : List Cell} {γ : MP.Env} {ρ : List Addr} {H : Hp}
/-- the tests of a comprehension -/
def tI (T : Tab) (f : Evl Bool) : TT := fun σ H Q => ∃ h, tT (T.hide h) W0 f σ H Q
def tX (T : Tab) (f : Evl D) : TE := fun σ H Q => ∃ h, tE (T.hide h) W0 f σ H Q
def gX (T : Tab) (VR : VRl) (t : Tg) : TG := fun v σ H Q => ∃ h, gV (T.hide h) VR t v σ H Q
theorem comp_end {D0 : Addr} {ρ1 ρ' : List Addr} {H1 H' : Hp} {m : Bool} {acc : List D} {vacc : List V} {c' : List Cell} {Q : VK} (hD : H1 D0 = none) (hnh : D0 ∉ T.hid) (e2 : Ext ρ1 H1 ρ' H') (s2 : StoreOk (T.hide (D0 :: T.hid)) ρ' H' (fr ++ c')) (hv : H' D0 = some (.lst vacc))
    (ra : RepL (T.hide (D0 :: T.hid)) ρ' H' vacc acc) (q3 : Post T fr (RQ T Q) NoW ρ1 H1 (newLst m acc fr.length c')) : Q (.ref D0) H' := by
    have hsub : ∀ a ∈ T.hid, a ∈ D0 :: T.hid := fun a ha => List.mem_cons_of_mem _ ha
    have hDn : D0 ∉ ρ' := (s2.hd D0 List.mem_cons_self).2
    unfold newLst at q3
    by_cases hz : acc.length ≤ sizeLine
    · rw [if_pos hz] at q3
      cases m with
      | false =>
        exact q3 ρ' H' e2 (s2.unhide hsub) _ (.lst hv ⟨hDn, hnh⟩ (RepL.unhide hsub ra))
      | true =>
        have e3 : Ext ρ1 H1 (ρ' ++ [D0]) H' := by
          refine ⟨?_, e2.keepN, fun a ha => ?_, e2.gone⟩
          · obtain ⟨r, hr⟩ := e2.pre
            exact ⟨r ++ [D0], by rw [hr, List.append_assoc]⟩
          · rcases List.mem_append.mp ha with z | z
            · exact e2.new a z
            · exact .inr (List.mem_singleton.mp z ▸ hD)
        have s3 := s2.adopt hv ra hnh
        rw [List.append_assoc] at s3
        refine q3 (ρ' ++ [D0]) H' e3 s3 _ (.ref ?_)
        have hl : ρ'.length = fr.length + c'.length := by rw [s2.len, List.length_append]
        rw [← hl, List.getElem?_append_right (Nat.le_refl _), Nat.sub_self]
        rfl
    · rw [if_neg hz] at q3; exact q3.elim
theorem comp_xs {VR : VRl} {t : Tg} {ifs : To} {own : List Nat} {m : Bool} {Q : VK} {ρ1 : List Addr} {H1 : Hp} {c1 : List Cell} {xs : List D} {J : L2.It} (ht : ∀ i ∈ tgIx t, i ∈ own) (en : EnvOk T ρ H σ γ) (e1 : Ext ρ H ρ1 H1) (s1 : StoreOk T ρ1 H1 (fr ++ c1)) (hJ : ItOk T VR J ρ1 H1 xs)
    (q : Post T fr (RQ T Q) NoW ρ1 H1 ((noExc (compL (stepC P call x t ifs own γ) fr.length xs [] c1)).bind (newK m fr.length))) (D0 : Addr) (hD : H1 D0 = none) :
    ∃ W : Nat → Nat → Hp → Prop, (∃ m, W 0 m (L2.upd H1 D0 (.lst []))) ∧ ∀ i m H, W i m H → (J.stop i H ∧ Q (.ref D0) H) ∨ (J.go i H ∧ ∃ Nx : Hp → Prop, (∀ H', Nx H' → ∃ m', m' < m ∧ W (i + 1) m' H') ∧ ∀ v H', J.yld i H v H' → gX T VR t v (L2.wipe σ own) H' fun σ2 H2 => L2.wipe σ2 own = L2.wipe σ own ∧ tI T (evC P call ifs) σ2 H2 fun b H3 =>
      if b = true then tX T (ev P call x) σ2 H3 fun y H4 => ∃ acc, H4 D0 = some (.lst acc) ∧ acc.length < sizeLine ∧ Nx (L2.upd H4 D0 (.lst (acc ++ [y]))) else Nx H3) := by
  have en1 := en.mono e1
  have hnh : D0 ∉ T.hid := fun z => (s1.hd D0 z).1 hD
  let T' : Tab := T.hide (D0 :: T.hid)
  have hh : ∀ a ∈ D0 :: T.hid, a ∈ T.hid ∨ H1 a = none := fun a ha => by
    rcases List.mem_cons.mp ha with z | z
    · exact .inr (z ▸ hD)
    · exact .inl z
  have hsub : ∀ a ∈ T.hid, a ∈ D0 :: T.hid := fun a ha => List.mem_cons_of_mem _ ha
  have hDT : D0 ∈ T'.hid := List.mem_cons_self
  let Wf : Nat → Nat → Hp → Prop := fun i k H' => ∃ ρ' c' acc vacc, Ext ρ1 H1 ρ' H' ∧ StoreOk T' ρ' H' (fr ++ c') ∧ H' D0 = some (.lst vacc) ∧ RepL T' ρ' H' vacc acc ∧ k + i = xs.length ∧
    Post T fr (RQ T Q) NoW ρ1 H1 ((noExc (compL (stepC P call x t ifs own γ) fr.length (xs.drop i) acc c')).bind (newK m fr.length))
  refine ⟨Wf, ⟨xs.length, ρ1, c1, [], [], Ext.upd hD, s1.begin hD, upd_same, .nil, rfl, by rw [List.drop_zero]; exact q⟩, fun i k H' w => ?_⟩
  obtain ⟨ρ', c', acc, vacc, e2, s2, hv, ra, hk, q2⟩ := w
  have hDn : D0 ∉ ρ' := (s2.hd D0 hDT).2
  by_cases hi : i < xs.length
  · refine .inr ⟨hJ.go (D0 :: T.hid) ρ' H' i _ hh e2.wk (List.getElem?_eq_getElem hi), Wf (i + 1) (k - 1), fun H3 w3 => ⟨k - 1, by omega, w3⟩, fun v H3 hy => ?_⟩
    obtain ⟨gr, vr⟩ := hJ.yld (D0 :: T.hid) ρ' H' i _ v H3 hh e2.wk (List.getElem?_eq_getElem hi) hy
    have e23 : Ext ρ' H' ρ' H3 := gr.ext
    have s3 := gr.st s2
    rw [List.drop_eq_getElem_cons hi] at q2
    have q3 : Post T fr (RQ T Q) NoW ρ1 H1 ((noExc (stepC P call x t ifs own γ xs[i] fr.length c')).bind fun o c => (noExc (match o with
      | some y => if acc.length < sizeLine then compL (stepC P call x t ifs own γ) fr.length (xs.drop (i + 1)) (acc ++ [y]) c else .bad
      | none => compL (stepC P call x t ifs own γ) fr.length (xs.drop (i + 1)) acc c)).bind (newK m fr.length)) := by
      rw [← bind_assoc, ← noExc_bind]
      exact q2
    have enW : EnvOk T' ρ' H3 (L2.wipe σ own) (wipeE γ own) := ((en1.hide hh).mono (e2.trans e23)).wipe own
    cases ha : asgT t xs[i] (wipeE γ own) with
    | none =>
      have : stepC P call x t ifs own γ xs[i] fr.length c' = .bad := by unfold stepC; rw [ha]
      rw [this] at q3
      exact q3.elim
    | some γ2 =>
      have hst : stepC P call x t ifs own γ xs[i] fr.length c' = (evC P call ifs γ2 fr.length c').bind fun k c => if k then (ev P call x γ2 fr.length c).bind fun y c => .ok (some y) c else .ok none c := by unfold stepC; rw [ha]
      rw [hst] at q3
      refine ⟨D0 :: T.hid, ρ', fr ++ c', wipeE γ own, γ2, xs[i], s3, enW, vr, ha, fun σ4 en4 kp => ⟨wipe_kept kp ht, D0 :: T.hid, ρ', fr, c', γ2, s3, en4, ?_⟩⟩
      cases hr : evC P call ifs γ2 fr.length c' with
      | bad => rw [hr] at q3; exact q3.elim
      | exc xx fs cc => rw [hr] at q3; exact q3.elim
      | ok kk c5 =>
        rw [hr] at q3
        intro ρ5 H5 e35 s5
        cases kk with
        | false =>
          show if false = true then _ else _
          rw [if_neg Bool.false_ne_true]
          have e25 : Ext ρ' H' ρ5 H5 := e23.trans e35
          exact ⟨ρ5, c5, acc, vacc, e2.trans e25, s5, e25.keep _ _ hv hDn, ra.mono e25, by omega, q3⟩
        | true =>
          show if true = true then _ else _
          rw [if_pos rfl]
          have q4 : Post T fr (RQ T Q) NoW ρ1 H1 ((noExc ((ev P call x γ2 fr.length c5).bind fun y c => .ok (some y) c)).bind fun o c => (noExc (match o with
            | some y => if acc.length < sizeLine then compL (stepC P call x t ifs own γ) fr.length (xs.drop (i + 1)) (acc ++ [y]) c else .bad
            | none => compL (stepC P call x t ifs own γ) fr.length (xs.drop (i + 1)) acc c)).bind (newK m fr.length)) := q3
          refine ⟨D0 :: T.hid, ρ5, fr, c5, γ2, s5, en4.mono e35, ?_⟩
          cases hr2 : ev P call x γ2 fr.length c5 with
          | bad => rw [hr2] at q4; exact q4.elim
          | exc xx fs cc => rw [hr2] at q4; exact q4.elim
          | ok y c6 =>
            rw [hr2] at q4
            have q5 : Post T fr (RQ T Q) NoW ρ1 H1 ((noExc (if acc.length < sizeLine then compL (stepC P call x t ifs own γ) fr.length (xs.drop (i + 1)) (acc ++ [y]) c6 else .bad)).bind (newK m fr.length)) := q4
            intro ρ6 H6 e56 s6 v6 r6
            by_cases hz : acc.length < sizeLine
            · rw [if_pos hz] at q5
              have e26 : Ext ρ' H' ρ6 H6 := (e23.trans e35).trans e56
              have hv6 : H6 D0 = some (.lst vacc) := e26.keep _ _ hv hDn
              have hD6 : D0 ∉ ρ6 := (s6.hd D0 hDT).2
              have ra6 := ra.mono e26
              refine ⟨vacc, hv6, by rw [ra.length]; exact hz, ρ6, c6, acc ++ [y], vacc ++ [v6], (e2.trans e26).updD hD hD6, ?_, upd_same, ?_, by omega, q5⟩
              · exact s6.updD hDT hv6 (fun _ z => by cases z) (fun _ z => by cases z)
              · exact (ra6.updD hDT).append (.cons (r6.updD hDT) .nil)
            · rw [if_neg hz] at q5; exact q5.elim
  · refine .inl ⟨hJ.stop (D0 :: T.hid) ρ' H' i hh e2.wk (by omega), ?_⟩
    rw [List.drop_eq_nil_of_le (by omega)] at q2
    have q3 : Post T fr (RQ T Q) NoW ρ1 H1 (newLst m acc fr.length c') := q2
    exact comp_end hD hnh e2 s2 hv ra q3
theorem comp_sto {VR : VRl} (hvr : ∀ T ρ H v d, Rep T ρ H v d → VR T ρ H v d) {t : Tg} {ifs : To} {own : List Nat} {m : Bool} {Q : VK} {ρ1 : List Addr} {H1 : Hp} {c1 : List Cell} {n len : Nat} {a : Addr} (ht : ∀ i ∈ tgIx t, i ∈ own) (en : EnvOk T ρ H σ γ) (e1 : Ext ρ H ρ1 H1) (s1 : StoreOk T ρ1 H1 (fr ++ c1)) (ha0 : ρ1[n]? = some a)
    (q : Post T fr (RQ T Q) NoW ρ1 H1 ((noExc (compS (stepC P call x t ifs own γ) fr.length n len 0 [] c1)).bind (newK m fr.length))) (D0 : Addr) (hD : H1 D0 = none) :
    ∃ W : Nat → Nat → Hp → Prop, (∃ m, W 0 m (L2.upd H1 D0 (.lst []))) ∧ ∀ i m H, W i m H → ((Itl T.K a).stop i H ∧ Q (.ref D0) H) ∨ ((Itl T.K a).go i H ∧ ∃ Nx : Hp → Prop, (∀ H', Nx H' → ∃ m', m' < m ∧ W (i + 1) m' H') ∧ ∀ v H', (Itl T.K a).yld i H v H' → gX T VR t v (L2.wipe σ own) H' fun σ2 H2 => L2.wipe σ2 own = L2.wipe σ own ∧ tI T (evC P call ifs) σ2 H2 fun b H3 =>
      if b = true then tX T (ev P call x) σ2 H3 fun y H4 => ∃ acc, H4 D0 = some (.lst acc) ∧ acc.length < sizeLine ∧ Nx (L2.upd H4 D0 (.lst (acc ++ [y]))) else Nx H3) := by
  have en1 := en.mono e1
  have hnh : D0 ∉ T.hid := fun z => (s1.hd D0 z).1 hD
  let T' : Tab := T.hide (D0 :: T.hid)
  have hh : ∀ a ∈ D0 :: T.hid, a ∈ T.hid ∨ H1 a = none := fun a ha => by
    rcases List.mem_cons.mp ha with z | z
    · exact .inr (z ▸ hD)
    · exact .inl z
  have hsub : ∀ a ∈ T.hid, a ∈ D0 :: T.hid := fun a ha => List.mem_cons_of_mem _ ha
  have hDT : D0 ∈ T'.hid := List.mem_cons_self
  let Wf : Nat → Nat → Hp → Prop := fun i k H' => ∃ ρ' c' acc vacc, Ext ρ1 H1 ρ' H' ∧ StoreOk T' ρ' H' (fr ++ c') ∧ H' D0 = some (.lst vacc) ∧ RepL T' ρ' H' vacc acc ∧
    Post T fr (RQ T Q) NoW ρ1 H1 ((noExc (compS (stepC P call x t ifs own γ) fr.length n k i acc c')).bind (newK m fr.length))
  refine ⟨Wf, ⟨len, ρ1, c1, [], [], Ext.upd hD, s1.begin hD, upd_same, .nil, q⟩, fun i k H' w => ?_⟩
  obtain ⟨ρ', c', acc, vacc, e2, s2, hv, ra, q2⟩ := w
  have hDn : D0 ∉ ρ' := (s2.hd D0 hDT).2
  have ha' := e2.at ha0
  cases hl : listAt fr.length c' n with
  | none =>
    have bad : compS (stepC P call x t ifs own γ) fr.length n k i acc c' = .bad := by
      cases k with
      | zero => unfold compS; rw [hl]
      | succ k => unfold compS; rw [hl]; rfl
    rw [bad] at q2
    exact q2.elim
  | some xs =>
    obtain ⟨a', vs, h1, h2, h3⟩ := listAt_rep hl s2
    rw [ha'] at h1; cases h1
    cases k with
    | zero =>
      have q3 : Post T fr (RQ T Q) NoW ρ1 H1 ((noExc (if xs.length ≤ i then .ok acc c' else .bad)).bind (newK m fr.length)) := by
        unfold compS at q2
        rw [hl] at q2
        exact q2
      by_cases hz : xs.length ≤ i
      · rw [if_pos hz] at q3
        exact .inl ⟨⟨vs, SqL.of h2, by rw [h3.length]; exact hz⟩, comp_end hD hnh e2 s2 hv ra q3⟩
      · rw [if_neg hz] at q3; exact q3.elim
    | succ k =>
      unfold compS at q2
      rw [hl] at q2
      have q3 : Post T fr (RQ T Q) NoW ρ1 H1 ((noExc (match xs[i]? with
        | some y => (stepC P call x t ifs own γ y fr.length c').bind fun o c => (match o with
          | some y => if acc.length < sizeLine then compS (stepC P call x t ifs own γ) fr.length n k (i + 1) (acc ++ [y]) c else .bad
          | none => compS (stepC P call x t ifs own γ) fr.length n k (i + 1) acc c)
        | none => .bad)).bind (newK m fr.length)) := q2
      cases hx : xs[i]? with
      | none => rw [hx] at q3; exact q3.elim
      | some x0 =>
        rw [hx] at q3
        obtain ⟨v0, hv0, rv0⟩ := h3.get hx
        refine .inr ⟨⟨vs, v0, SqL.of h2, hv0⟩, Wf (i + 1) k, fun H3 w3 => ⟨k, by omega, w3⟩, fun v H3 hy => ?_⟩
        obtain ⟨rfl, hy2⟩ := hy
        have ev0 : vs[i]? = some v := hy2 vs (SqL.of h2)
        rw [hv0] at ev0; cases ev0
        have q4 : Post T fr (RQ T Q) NoW ρ1 H1 ((noExc (stepC P call x t ifs own γ x0 fr.length c')).bind fun o c => (noExc (match o with
          | some y => if acc.length < sizeLine then compS (stepC P call x t ifs own γ) fr.length n k (i + 1) (acc ++ [y]) c else .bad
          | none => compS (stepC P call x t ifs own γ) fr.length n k (i + 1) acc c)).bind (newK m fr.length)) := by
          rw [← bind_assoc, ← noExc_bind]
          exact q3
        have enW : EnvOk T' ρ' H3 (L2.wipe σ own) (wipeE γ own) := ((en1.hide hh).mono e2).wipe own
        cases hasg : asgT t x0 (wipeE γ own) with
        | none =>
          have : stepC P call x t ifs own γ x0 fr.length c' = .bad := by unfold stepC; rw [hasg]
          rw [this] at q4
          exact q4.elim
        | some γ2 =>
          have hst : stepC P call x t ifs own γ x0 fr.length c' = (evC P call ifs γ2 fr.length c').bind fun k c => if k then (ev P call x γ2 fr.length c).bind fun y c => .ok (some y) c else .ok none c := by unfold stepC; rw [hasg]
          rw [hst] at q4
          refine ⟨D0 :: T.hid, ρ', fr ++ c', wipeE γ own, γ2, x0, s2, enW, hvr _ _ _ _ _ rv0, hasg, fun σ4 en4 kp => ⟨wipe_kept kp ht, D0 :: T.hid, ρ', fr, c', γ2, s2, en4, ?_⟩⟩
          cases hr : evC P call ifs γ2 fr.length c' with
          | bad => rw [hr] at q4; exact q4.elim
          | exc xx fs cc => rw [hr] at q4; exact q4.elim
          | ok kk c5 =>
            rw [hr] at q4
            intro ρ5 H5 e35 s5
            cases kk with
            | false =>
              show if false = true then _ else _
              rw [if_neg Bool.false_ne_true]
              exact ⟨ρ5, c5, acc, vacc, e2.trans e35, s5, e35.keep _ _ hv hDn, ra.mono e35, q4⟩
            | true =>
              show if true = true then _ else _
              rw [if_pos rfl]
              have q5 : Post T fr (RQ T Q) NoW ρ1 H1 ((noExc ((ev P call x γ2 fr.length c5).bind fun y c => .ok (some y) c)).bind fun o c => (noExc (match o with
                | some y => if acc.length < sizeLine then compS (stepC P call x t ifs own γ) fr.length n k (i + 1) (acc ++ [y]) c else .bad
                | none => compS (stepC P call x t ifs own γ) fr.length n k (i + 1) acc c)).bind (newK m fr.length)) := q4
              refine ⟨D0 :: T.hid, ρ5, fr, c5, γ2, s5, en4.mono e35, ?_⟩
              cases hr2 : ev P call x γ2 fr.length c5 with
              | bad => rw [hr2] at q5; exact q5.elim
              | exc xx fs cc => rw [hr2] at q5; exact q5.elim
              | ok y c6 =>
                rw [hr2] at q5
                have q6 : Post T fr (RQ T Q) NoW ρ1 H1 ((noExc (if acc.length < sizeLine then compS (stepC P call x t ifs own γ) fr.length n k (i + 1) (acc ++ [y]) c6 else .bad)).bind (newK m fr.length)) := q5
                intro ρ6 H6 e56 s6 v6 r6
                by_cases hz : acc.length < sizeLine
                · rw [if_pos hz] at q6
                  have e26 : Ext ρ' H3 ρ6 H6 := e35.trans e56
                  have hv6 : H6 D0 = some (.lst vacc) := e26.keep _ _ hv hDn
                  have hD6 : D0 ∉ ρ6 := (s6.hd D0 hDT).2
                  have ra6 := ra.mono e26
                  refine ⟨vacc, hv6, by rw [ra.length]; exact hz, ρ6, c6, acc ++ [y], vacc ++ [v6], (e2.trans e26).updD hD hD6, ?_, upd_same, ?_, q6⟩
                  · exact s6.updD hDT hv6 (fun _ z => by cases z) (fun _ z => by cases z)
                  · exact (ra6.updD hDT).append (.cons (r6.updD hDT) .nil)
                · rw [if_neg hz] at q6; exact q6.elim
theorem comp_run {VR : VRl} (hvr : ∀ T ρ H v d, Rep T ρ H v d → VR T ρ H v d) {t : Tg} {it : It} {ifs : To} {own : List Nat} {m : Bool} {Q : VK} (ht : ∀ i ∈ tgIx t, i ∈ own) (st : StoreOk T ρ H (fr ++ c)) (en : EnvOk T ρ H σ γ) (p : Post T fr (RQ T Q) NoW ρ H (ev P call (.comp x t it ifs own m) γ fr.length c)) :
    tLc (iS T VR (evI P call it)) (gX T VR t) (tI T (evC P call ifs)) (tX T (ev P call x)) own σ H Q := by
  have p : Post T fr (RQ T Q) NoW ρ H ((evI P call it γ fr.length c).bind fun w c => (noExc (compW (stepC P call x t ifs own γ) fr.length w [] c)).bind (newK m fr.length)) := by
    unfold ev at p; exact p
  refine ⟨ρ, fr, c, γ, st, en, p.bind.imp fun ρ1 H1 w _ ⟨c1, e1, s1, _, q⟩ => ?_⟩
  cases w with
  | xs xs => exact fun J hJ D0 hD => comp_xs ht en e1 s1 hJ q D0 hD
  | sto n len => exact fun a vs0 ha0 _ _ D0 hD => comp_sto hvr ht en e1 s1 ha0 q D0 hD
/-- the innermost walk of a comprehension: what is gathered is hidden at D0; Fin: what its end is to reach -/
theorem loop_core {VR : VRl} {t : Tg} {ifs : To} {own : List Nat} {h0 hs : List Addr} {D0 : Addr} {J : L2.It} {ρ1 ρ0 : List Addr} {H1 Hs H0 : Hp} {xs acc0 : List D} {vacc0 : List V} {c1 : List Cell} {Tq : Tab} {α : Type} {R : List Addr → Hp → α → Prop} {K : List D → List Cell → Res α} {Fin : Hp → Prop}
    (ht : ∀ i ∈ tgIx t, i ∈ own) (hDs : D0 ∈ hs) (hJ : ItOk (T.hide h0) VR J ρ1 H1 xs) (hh : NewH (T.hide h0) H1 hs) (en : EnvOk (T.hide hs) ρ1 H1 σ γ)
    (es : ExtW (T.hide [D0]) ρ1 H1 ρ1 Hs) (ss : StoreOk (T.hide hs) ρ1 Hs (fr ++ c1)) (hv : Hs D0 = some (.lst vacc0)) (ra : RepL (T.hide hs) ρ1 Hs vacc0 acc0)
    (q : Post Tq fr R NoW ρ0 H0 ((noExc (compL (stepC P call x t ifs own γ) fr.length xs acc0 c1)).bind K))
    (hfin : ∀ ρ' H' c' acc vacc, ExtW (T.hide [D0]) ρ1 H1 ρ' H' → StoreOk (T.hide hs) ρ' H' (fr ++ c') → H' D0 = some (.lst vacc) → RepL (T.hide hs) ρ' H' vacc acc → Post Tq fr R NoW ρ0 H0 (K acc c') → Fin H') :
    ∃ W : Nat → Nat → Hp → Prop, (∃ m, W 0 m Hs) ∧ ∀ i m H, W i m H → (J.stop i H ∧ Fin H) ∨ (J.go i H ∧ ∃ Nx : Hp → Prop, (∀ H', Nx H' → ∃ m', m' < m ∧ W (i + 1) m' H') ∧ ∀ v H', J.yld i H v H' → gX T VR t v (L2.wipe σ own) H' fun σ2 H2 => L2.wipe σ2 own = L2.wipe σ own ∧ tI T (evC P call ifs) σ2 H2 fun b H3 =>
      if b = true then tX T (ev P call x) σ2 H3 fun y H4 => ∃ acc, H4 D0 = some (.lst acc) ∧ acc.length < sizeLine ∧ Nx (upd H4 D0 (.lst (acc ++ [y]))) else Nx H3) := by
  let T' : Tab := T.hide hs
  have hDT : D0 ∈ T'.hid := hDs
  let Wf : Nat → Nat → Hp → Prop := fun i k H' => ∃ ρ' c' acc vacc, ExtW (T.hide [D0]) ρ1 H1 ρ' H' ∧ StoreOk T' ρ' H' (fr ++ c') ∧ H' D0 = some (.lst vacc) ∧ RepL T' ρ' H' vacc acc ∧ k + i = xs.length ∧
    Post Tq fr R NoW ρ0 H0 ((noExc (compL (stepC P call x t ifs own γ) fr.length (xs.drop i) acc c')).bind K)
  refine ⟨Wf, ⟨xs.length, ρ1, c1, acc0, vacc0, es, ss, hv, ra, rfl, by rw [List.drop_zero]; exact q⟩, fun i k H' w => ?_⟩
  obtain ⟨ρ', c', acc, vacc, e2, s2, hv, ra, hk, q2⟩ := w
  have hDn : D0 ∉ ρ' := (s2.hd D0 hDT).2
  by_cases hi : i < xs.length
  · refine .inr ⟨hJ.go hs ρ' H' i _ hh (e2.more hDs) (List.getElem?_eq_getElem hi), Wf (i + 1) (k - 1), fun H3 w3 => ⟨k - 1, by omega, w3⟩, fun v H3 hy => ?_⟩
    obtain ⟨gr, vr⟩ := hJ.yld hs ρ' H' i _ v H3 hh (e2.more hDs) (List.getElem?_eq_getElem hi) hy
    have e23 : Ext ρ' H' ρ' H3 := gr.ext
    have s3 := gr.st s2
    rw [List.drop_eq_getElem_cons hi] at q2
    have q3 : Post Tq fr R NoW ρ0 H0 ((noExc (stepC P call x t ifs own γ xs[i] fr.length c')).bind fun o c => (noExc (match o with
      | some y => if acc.length < sizeLine then compL (stepC P call x t ifs own γ) fr.length (xs.drop (i + 1)) (acc ++ [y]) c else .bad
      | none => compL (stepC P call x t ifs own γ) fr.length (xs.drop (i + 1)) acc c)).bind K) := by
      rw [← bind_assoc, ← noExc_bind]
      exact q2
    have enW : EnvOk T' ρ' H3 (L2.wipe σ own) (wipeE γ own) := (en.monoW ((e2.trans e23.wk).more hDs)).wipe own
    cases ha : asgT t xs[i] (wipeE γ own) with
    | none =>
      have : stepC P call x t ifs own γ xs[i] fr.length c' = .bad := by unfold stepC; rw [ha]
      rw [this] at q3
      exact q3.elim
    | some γ2 =>
      have hst : stepC P call x t ifs own γ xs[i] fr.length c' = (evC P call ifs γ2 fr.length c').bind fun k c => if k then (ev P call x γ2 fr.length c).bind fun y c => .ok (some y) c else .ok none c := by unfold stepC; rw [ha]
      rw [hst] at q3
      refine ⟨hs, ρ', fr ++ c', wipeE γ own, γ2, xs[i], s3, enW, vr, ha, fun σ4 en4 kp => ⟨wipe_kept kp ht, hs, ρ', fr, c', γ2, s3, en4, ?_⟩⟩
      cases hr : evC P call ifs γ2 fr.length c' with
      | bad => rw [hr] at q3; exact q3.elim
      | exc xx fs cc => rw [hr] at q3; exact q3.elim
      | ok kk c5 =>
        rw [hr] at q3
        intro ρ5 H5 e35 s5
        cases kk with
        | false =>
          show if false = true then _ else _
          rw [if_neg Bool.false_ne_true]
          have e25 : Ext ρ' H' ρ5 H5 := e23.trans e35
          exact ⟨ρ5, c5, acc, vacc, e2.trans e25.wk, s5, e25.keep _ _ hv hDn, ra.mono e25, by omega, q3⟩
        | true =>
          show if true = true then _ else _
          rw [if_pos rfl]
          have q4 : Post Tq fr R NoW ρ0 H0 ((noExc ((ev P call x γ2 fr.length c5).bind fun y c => .ok (some y) c)).bind fun o c => (noExc (match o with
            | some y => if acc.length < sizeLine then compL (stepC P call x t ifs own γ) fr.length (xs.drop (i + 1)) (acc ++ [y]) c else .bad
            | none => compL (stepC P call x t ifs own γ) fr.length (xs.drop (i + 1)) acc c)).bind K) := q3
          refine ⟨hs, ρ5, fr, c5, γ2, s5, en4.mono e35, ?_⟩
          cases hr2 : ev P call x γ2 fr.length c5 with
          | bad => rw [hr2] at q4; exact q4.elim
          | exc xx fs cc => rw [hr2] at q4; exact q4.elim
          | ok y c6 =>
            rw [hr2] at q4
            have q5 : Post Tq fr R NoW ρ0 H0 ((noExc (if acc.length < sizeLine then compL (stepC P call x t ifs own γ) fr.length (xs.drop (i + 1)) (acc ++ [y]) c6 else .bad)).bind K) := q4
            intro ρ6 H6 e56 s6 v6 r6
            by_cases hz : acc.length < sizeLine
            · rw [if_pos hz] at q5
              have e26 : Ext ρ' H' ρ6 H6 := (e23.trans e35).trans e56
              have hv6 : H6 D0 = some (.lst vacc) := e26.keep _ _ hv hDn
              have ra6 := ra.mono e26
              have eD : ExtW (T.hide [D0]) ρ6 H6 ρ6 (upd H6 D0 (.lst (vacc ++ [v6]))) := ExtW.updH (T := T.hide [D0]) (List.mem_singleton.mpr rfl)
              refine ⟨vacc, hv6, by rw [ra.length]; exact hz, ρ6, c6, acc ++ [y], vacc ++ [v6], (e2.trans e26.wk).trans eD, ?_, upd_same, ?_, by omega, q5⟩
              · exact s6.updD hDT hv6 (fun _ z => by cases z) (fun _ z => by cases z)
              · exact (ra6.updD hDT).append (.cons (r6.updD hDT) .nil)
            · rw [if_neg hz] at q5; exact q5.elim
  · refine .inl ⟨hJ.stop hs ρ' H' i hh (e2.more hDs) (by omega), ?_⟩
    rw [List.drop_eq_nil_of_le (by omega)] at q2
    exact hfin ρ' H' c' acc vacc e2 s2 hv ra q2
def iX (T : Tab) (VR : VRl) (f : Evl Wk) : TI := fun σ H R => ∃ h, iS (T.hide h) VR f σ H R
def step2 (P : Prog) (call : Call) (elt : E) (t : Tg) (ifs : To) (t2 : Tg) (it2 : It) (ifs2 : To) (own own2 : List Nat) (γ : MP.Env) : D → List D → Nat → List Cell → Res (List D) := fun x acc b c => match asgT t x (wipeE γ own) with
  | some γ2 => (evC P call ifs γ2 b c).bind fun k c => if k then ((evI P call it2 γ2 b c).bind fun w c => ofOpt (itemsW w) c).bind fun ys c => compL (stepC P call elt t2 ifs2 own2 γ2) b ys acc c else .ok acc c
  | none => .bad
theorem comp2_run {VR VR2 : VRl} {t t2 : Tg} {it it2 : It} {ifs ifs2 : To} {own own2 : List Nat} {m : Bool} {Q : VK} (ht : ∀ i ∈ tgIx t, i ∈ own) (ht2 : ∀ i ∈ tgIx t2, i ∈ own2) (st : StoreOk T ρ H (fr ++ c)) (en : EnvOk T ρ H σ γ) (p : Post T fr (RQ T Q) NoW ρ H (ev P call (.comp2 x t it ifs t2 it2 ifs2 own own2 m) γ fr.length c)) :
    tLc2 (iS T VR (evI P call it)) (gX T VR t) (tI T (evC P call ifs)) (iX T VR2 (evI P call it2)) (gX T VR2 t2) (tI T (evC P call ifs2)) (tX T (ev P call x)) own own2 σ H Q := by
  have p : Post T fr (RQ T Q) NoW ρ H ((evI P call it γ fr.length c).bind fun w c => (ofOpt (itemsW w) c).bind fun xs c => (noExc (foldL (step2 P call x t ifs t2 it2 ifs2 own own2 γ) fr.length xs [] c)).bind (newK m fr.length)) := by
    rw [← bind_assoc]
    unfold ev at p; exact p
  refine ⟨ρ, fr, c, γ, st, en, p.bind.imp fun ρ1 H1 w _ ⟨c1, e1, s1, _, q⟩ => ?_⟩
  cases w with
  | sto _ _ => exact q.elim
  | xs xs =>
  have q : Post T fr (RQ T Q) NoW ρ1 H1 ((noExc (foldL (step2 P call x t ifs t2 it2 ifs2 own own2 γ) fr.length xs [] c1)).bind (newK m fr.length)) := q
  intro J hJ D0 hD
  have en1 := en.mono e1
  have hnh : D0 ∉ T.hid := fun z => (s1.hd D0 z).1 hD
  let T' : Tab := T.hide (D0 :: T.hid)
  have hh : NewH T H1 (D0 :: T.hid) := fun a ha => by
    rcases List.mem_cons.mp ha with z | z
    · exact .inr (z ▸ hD)
    · exact .inl z
  have hsub : ∀ a ∈ T.hid, a ∈ D0 :: T.hid := fun a ha => List.mem_cons_of_mem _ ha
  have hDT : D0 ∈ T'.hid := List.mem_cons_self
  have hDs : D0 ∈ D0 :: T.hid := List.mem_cons_self
  let Wf : Nat → Nat → Hp → Prop := fun i k H' => ∃ ρ' c' acc vacc, ExtW (T.hide [D0]) ρ1 H1 ρ' H' ∧ StoreOk T' ρ' H' (fr ++ c') ∧ H' D0 = some (.lst vacc) ∧ RepL T' ρ' H' vacc acc ∧ k + i = xs.length ∧
    Post T fr (RQ T Q) NoW ρ1 H1 ((noExc (foldL (step2 P call x t ifs t2 it2 ifs2 own own2 γ) fr.length (xs.drop i) acc c')).bind (newK m fr.length))
  refine ⟨Wf, ⟨xs.length, ρ1, c1, [], [], (Ext.upd hD).wk, s1.begin hD, upd_same, .nil, rfl, by rw [List.drop_zero]; exact q⟩, fun i k H' w => ?_⟩
  obtain ⟨ρ', c', acc, vacc, e2, s2, hv, ra, hk, q2⟩ := w
  have hDn : D0 ∉ ρ' := (s2.hd D0 hDT).2
  by_cases hi : i < xs.length
  · refine .inr ⟨hJ.go (D0 :: T.hid) ρ' H' i _ hh (e2.more hDs) (List.getElem?_eq_getElem hi), Wf (i + 1) (k - 1), fun H3 w3 => ⟨k - 1, by omega, w3⟩, fun v H3 hy => ?_⟩
    obtain ⟨gr, vr⟩ := hJ.yld (D0 :: T.hid) ρ' H' i _ v H3 hh (e2.more hDs) (List.getElem?_eq_getElem hi) hy
    have e23 : Ext ρ' H' ρ' H3 := gr.ext
    have s3 := gr.st s2
    rw [List.drop_eq_getElem_cons hi] at q2
    have q3 : Post T fr (RQ T Q) NoW ρ1 H1 ((noExc (step2 P call x t ifs t2 it2 ifs2 own own2 γ xs[i] acc fr.length c')).bind fun acc c => (noExc (foldL (step2 P call x t ifs t2 it2 ifs2 own own2 γ) fr.length (xs.drop (i + 1)) acc c)).bind (newK m fr.length)) := by
      rw [← bind_assoc, ← noExc_bind]
      exact q2
    have enW : EnvOk T' ρ' H3 (L2.wipe σ own) (wipeE γ own) := ((en1.hide hh).monoW ((e2.trans e23.wk).more hDs)).wipe own
    cases ha : asgT t xs[i] (wipeE γ own) with
    | none =>
      have : step2 P call x t ifs t2 it2 ifs2 own own2 γ xs[i] acc fr.length c' = .bad := by unfold step2; rw [ha]
      rw [this] at q3
      exact q3.elim
    | some γ2 =>
      have hst : step2 P call x t ifs t2 it2 ifs2 own own2 γ xs[i] acc fr.length c' = (evC P call ifs γ2 fr.length c').bind fun k c => if k then ((evI P call it2 γ2 fr.length c).bind fun w c => ofOpt (itemsW w) c).bind fun ys c => compL (stepC P call x t2 ifs2 own2 γ2) fr.length ys acc c else .ok acc c := by unfold step2; rw [ha]
      rw [hst] at q3
      refine ⟨D0 :: T.hid, ρ', fr ++ c', wipeE γ own, γ2, xs[i], s3, enW, vr, ha, fun σ4 en4 kp => ⟨wipe_kept kp ht, D0 :: T.hid, ρ', fr, c', γ2, s3, en4, ?_⟩⟩
      cases hr : evC P call ifs γ2 fr.length c' with
      | bad => rw [hr] at q3; exact q3.elim
      | exc xx fs cc => rw [hr] at q3; exact q3.elim
      | ok kk c5 =>
        rw [hr] at q3
        intro ρ5 H5 e35 s5
        have e25 : Ext ρ' H' ρ5 H5 := e23.trans e35
        cases kk with
        | false =>
          show if false = true then _ else _
          rw [if_neg Bool.false_ne_true]
          exact ⟨ρ5, c5, acc, vacc, e2.trans e25.wk, s5, e25.keep _ _ hv hDn, ra.mono e25, by omega, q3⟩
        | true =>
          show if true = true then _ else _
          rw [if_pos rfl]
          have q4 : Post T fr (RQ T Q) NoW ρ1 H1 ((noExc (((evI P call it2 γ2 fr.length c5).bind fun w c => ofOpt (itemsW w) c).bind fun ys c => compL (stepC P call x t2 ifs2 own2 γ2) fr.length ys acc c)).bind fun acc c => (noExc (foldL (step2 P call x t ifs t2 it2 ifs2 own own2 γ) fr.length (xs.drop (i + 1)) acc c)).bind (newK m fr.length)) := q3
          refine ⟨D0 :: T.hid, ρ5, fr, c5, γ2, s5, en4.mono e35, ?_⟩
          cases hr2 : evI P call it2 γ2 fr.length c5 with
          | bad => rw [hr2] at q4; exact q4.elim
          | exc xx fs cc => rw [hr2] at q4; exact q4.elim
          | ok w c6 =>
            rw [hr2] at q4
            cases w with
            | sto _ _ => exact q4.elim
            | xs ys =>
            intro ρ6 H6 e56 s6 J1 hJ1
            have e26 : Ext ρ' H' ρ6 H6 := e25.trans e56
            refine loop_core (T := T) (h0 := D0 :: T.hid) (hs := D0 :: T.hid) (Tq := T) (R := RQ T Q) (D0 := D0) (c1 := c6) (acc0 := acc) (vacc0 := vacc) (ρ0 := ρ1) (H0 := H1) (own := own2) ht2 hDs hJ1 (fun a ha => .inl ha) ((en4.mono e35).mono e56) (Ext.refl _ _).wk s6 (e26.keep _ _ hv hDn) (ra.mono e26) q4 fun ρ7 H7 c7 acc7 vacc7 e67 s7 hv7 ra7 q7 => ?_
            exact ⟨ρ7, c7, acc7, vacc7, (e2.trans e26.wk).trans e67, s7, hv7, ra7, by omega, q7⟩
  · refine .inl ⟨hJ.stop (D0 :: T.hid) ρ' H' i hh (e2.more hDs) (by omega), ?_⟩
    rw [List.drop_eq_nil_of_le (by omega)] at q2
    have q3 : Post T fr (RQ T Q) NoW ρ1 H1 (newLst m acc fr.length c') := q2
    exact comp_end hD hnh (e2.strong hD) s2 hv ra q3
end
end MP
end
section
set_option maxRecDepth 100000
set_option maxHeartbeats 1000000
namespace MP
open PySem PySem.Spec PyProof.Rows L2
section
variable {T : Tab} {ρ ρ' : List Addr} {H H' : Hp} {D0 : Addr} {o : HO}
theorem RepQ.mono (e : Ext ρ H ρ' H') : ∀ {vs : List (Key × V)} {ds : List (Key × D)}, RepQ T ρ H vs ds → RepQ T ρ' H' vs ds
  | _, _, .nil => .nil
  | _, _, .cons h r => .cons (Rep.mono e h) (RepQ.mono e r)
theorem RepQ.updD (hD : D0 ∈ T.hid) : ∀ {vs : List (Key × V)} {ds : List (Key × D)}, RepQ T ρ H vs ds → RepQ T ρ (L2.upd H D0 o) vs ds
  | _, _, .nil => .nil
  | _, _, .cons h r => .cons (Rep.updD hD h) (RepQ.updD hD r)
theorem RepQ.len : ∀ {vs : List (Key × V)} {ds : List (Key × D)}, RepQ T ρ H vs ds → vs.length = ds.length
  | _, _, .nil => rfl
  | _, _, .cons h r => by simp [RepQ.len r]
end
def stepD (P : Prog) (call : Call) (kx vx : E) (t : Tg) (ifs : To) (own : List Nat) (γ : MP.Env) : D → Nat → List Cell → Res (Option (Key × D)) := fun x b c => match asgT t x (wipeE γ own) with
  | some γ' => (evC P call ifs γ' b c).bind fun k c => if k then (ev P call kx γ' b c).bind fun y c => (ev P call vx γ' b c).bind fun z c => match keyOf y with
    | some k => .ok (some (k, z)) c
    | none => .bad else .ok none c
  | none => .bad
section
variable {T : Tab} {P : Prog} {call : Call} {X : Cx} {σ : L2.St} {fr c : List Cell} {γ : MP.Env} {ρ : List Addr} {H : Hp}
theorem dcomp_run {VR : VRl} {kx vx : E} {t : Tg} {it : It} {ifs : To} {own : List Nat} {Q : VK} (ht : ∀ i ∈ tgIx t, i ∈ own) (st : StoreOk T ρ H (fr ++ c)) (en : EnvOk T ρ H σ γ) (p : Post T fr (RQ T Q) NoW ρ H (ev P call (.dcomp kx vx t it ifs own) γ fr.length c)) :
    tDc (iS T VR (evI P call it)) (gX T VR t) (tI T (evC P call ifs)) (tX T (ev P call kx)) (tX T (ev P call vx)) own σ H Q := by
  have p : Post T fr (RQ T Q) NoW ρ H ((evI P call it γ fr.length c).bind fun w c => (ofOpt (itemsW w) c).bind fun xs c => (noExc (dcL (stepD P call kx vx t ifs own γ) fr.length xs [] c)).bind dicEnd) := by
    rw [← bind_assoc]
    unfold ev at p; exact p
  refine ⟨ρ, fr, c, γ, st, en, p.bind.imp fun ρ1 H1 w _ ⟨c1, e1, s1, _, q⟩ => ?_⟩
  cases w with
  | sto _ _ => exact q.elim
  | xs xs =>
  have q : Post T fr (RQ T Q) NoW ρ1 H1 ((noExc (dcL (stepD P call kx vx t ifs own γ) fr.length xs [] c1)).bind dicEnd) := q
  intro J hJ D0 hD
  have en1 := en.mono e1
  have hnh : D0 ∉ T.hid := fun z => (s1.hd D0 z).1 hD
  let T' : Tab := T.hide (D0 :: T.hid)
  have hh : NewH T H1 (D0 :: T.hid) := fun a ha => by
    rcases List.mem_cons.mp ha with z | z
    · exact .inr (z ▸ hD)
    · exact .inl z
  have hsub : ∀ a ∈ T.hid, a ∈ D0 :: T.hid := fun a ha => List.mem_cons_of_mem _ ha
  have hDT : D0 ∈ T'.hid := List.mem_cons_self
  let Wf : Nat → Nat → Hp → Prop := fun i k H' => ∃ ρ' c' acc vacc, Ext ρ1 H1 ρ' H' ∧ StoreOk T' ρ' H' (fr ++ c') ∧ H' D0 = some (.dK vacc) ∧ RepQ T' ρ' H' vacc acc ∧ k + i = xs.length ∧
    Post T fr (RQ T Q) NoW ρ1 H1 ((noExc (dcL (stepD P call kx vx t ifs own γ) fr.length (xs.drop i) acc c')).bind dicEnd)
  refine ⟨Wf, ⟨xs.length, ρ1, c1, [], [], Ext.upd hD, s1.begin hD, upd_same, .nil, rfl, by rw [List.drop_zero]; exact q⟩, fun i k H' w => ?_⟩
  obtain ⟨ρ', c', acc, vacc, e2, s2, hv, ra, hk, q2⟩ := w
  have hDn : D0 ∉ ρ' := (s2.hd D0 hDT).2
  by_cases hi : i < xs.length
  · refine .inr ⟨hJ.go (D0 :: T.hid) ρ' H' i _ hh e2.wk (List.getElem?_eq_getElem hi), Wf (i + 1) (k - 1), fun H3 w3 => ⟨k - 1, by omega, w3⟩, fun v H3 hy => ?_⟩
    obtain ⟨gr, vr⟩ := hJ.yld (D0 :: T.hid) ρ' H' i _ v H3 hh e2.wk (List.getElem?_eq_getElem hi) hy
    have e23 : Ext ρ' H' ρ' H3 := gr.ext
    have s3 := gr.st s2
    rw [List.drop_eq_getElem_cons hi] at q2
    have q3 : Post T fr (RQ T Q) NoW ρ1 H1 ((noExc (stepD P call kx vx t ifs own γ xs[i] fr.length c')).bind fun o c => (noExc (match o with
      | some (k, y) => if acc.length < sizeLine then dcL (stepD P call kx vx t ifs own γ) fr.length (xs.drop (i + 1)) (putD acc k y) c else .bad
      | none => dcL (stepD P call kx vx t ifs own γ) fr.length (xs.drop (i + 1)) acc c)).bind dicEnd) := by
      rw [← bind_assoc, ← noExc_bind]
      exact q2
    have enW : EnvOk T' ρ' H3 (L2.wipe σ own) (wipeE γ own) := ((en1.hide hh).mono (e2.trans e23)).wipe own
    cases ha : asgT t xs[i] (wipeE γ own) with
    | none =>
      have : stepD P call kx vx t ifs own γ xs[i] fr.length c' = .bad := by unfold stepD; rw [ha]
      rw [this] at q3
      exact q3.elim
    | some γ2 =>
      have hst : stepD P call kx vx t ifs own γ xs[i] fr.length c' = (evC P call ifs γ2 fr.length c').bind fun k c => if k then (ev P call kx γ2 fr.length c).bind fun y c => (ev P call vx γ2 fr.length c).bind fun z c => match keyOf y with
        | some k => .ok (some (k, z)) c
        | none => .bad else .ok none c := by unfold stepD; rw [ha]
      rw [hst] at q3
      refine ⟨D0 :: T.hid, ρ', fr ++ c', wipeE γ own, γ2, xs[i], s3, enW, vr, ha, fun σ4 en4 kp => ⟨wipe_kept kp ht, D0 :: T.hid, ρ', fr, c', γ2, s3, en4, ?_⟩⟩
      cases hr : evC P call ifs γ2 fr.length c' with
      | bad => rw [hr] at q3; exact q3.elim
      | exc xx fs cc => rw [hr] at q3; exact q3.elim
      | ok kk c5 =>
        rw [hr] at q3
        intro ρ5 H5 e35 s5
        cases kk with
        | false =>
          show if false = true then _ else _
          rw [if_neg Bool.false_ne_true]
          have e25 : Ext ρ' H' ρ5 H5 := e23.trans e35
          exact ⟨ρ5, c5, acc, vacc, e2.trans e25, s5, e25.keep _ _ hv hDn, ra.mono e25, by omega, q3⟩
        | true =>
          show if true = true then _ else _
          rw [if_pos rfl]
          refine ⟨D0 :: T.hid, ρ5, fr, c5, γ2, s5, en4.mono e35, ?_⟩
          cases hr2 : ev P call kx γ2 fr.length c5 with
          | bad => rw [Res.bind_ok, if_pos rfl, hr2] at q3; exact q3.elim
          | exc xx fs cc => rw [Res.bind_ok, if_pos rfl, hr2] at q3; exact q3.elim
          | ok y c6 =>
            rw [Res.bind_ok, if_pos rfl, hr2, Res.bind_ok] at q3
            intro ρ6 H6 e56 s6 v6 r6
            refine ⟨D0 :: T.hid, ρ6, fr, c6, γ2, s6, (en4.mono e35).mono e56, ?_⟩
            cases hr3 : ev P call vx γ2 fr.length c6 with
            | bad => rw [hr3] at q3; exact q3.elim
            | exc xx fs cc => rw [hr3] at q3; exact q3.elim
            | ok z c7 =>
              rw [hr3, Res.bind_ok] at q3
              intro ρ7 H7 e67 s7 v7 r7
              cases hky : keyOf y with
              | none => rw [hky] at q3; exact q3.elim
              | some kz =>
                rw [hky] at q3
                have q5 : Post T fr (RQ T Q) NoW ρ1 H1 ((noExc (if acc.length < sizeLine then dcL (stepD P call kx vx t ifs own γ) fr.length (xs.drop (i + 1)) (putD acc kz z) c7 else .bad)).bind dicEnd) := q3
                by_cases hz : acc.length < sizeLine
                · rw [if_pos hz] at q5
                  have e27 : Ext ρ' H' ρ7 H7 := ((e23.trans e35).trans e56).trans e67
                  have hv7 : H7 D0 = some (.dK vacc) := e27.keep _ _ hv hDn
                  have hD7 : D0 ∉ ρ7 := (s7.hd D0 hDT).2
                  have ra7 := ra.mono e27
                  refine ⟨vacc, kz, keyOf_rep r6 hky, hv7, by rw [ra.len]; exact hz, ρ7, c7, putD acc kz z, putK vacc kz v7, (e2.trans e27).updD hD hD7, ?_, upd_same, ?_, by omega, q5⟩
                  · exact s7.updD hDT hv7 (fun _ z => by cases z) (fun _ z => by cases z)
                  · exact (ra7.put r7).updD hDT
                · rw [if_neg hz] at q5; exact q5.elim
  · refine .inl ⟨hJ.stop (D0 :: T.hid) ρ' H' i hh e2.wk (by omega), ?_⟩
    rw [List.drop_eq_nil_of_le (by omega)] at q2
    have q3 : Post T fr (RQ T Q) NoW ρ1 H1 (.ok (dictOf acc) c') := q2
    exact q3 ρ' H' e2 (s2.unhide hsub) _ (.dic hv ⟨hDn, hnh⟩ (RepK.unhide hsub ra.k))
theorem SE_dcomp {tg kxe vxe iter : Expr} {kx vx : E} {pos : Pos} {ifs : List Expr} {scope : Scope} {own : List (Str × Nat)} {VR : VRl} {t : Tg} {it : It} {xi : To} (hc : X.calm = true) (hN : X.N.Nodup) (hi : PI X tg iter (iS T VR (evI P call it))) (ok : BlkOk X.N X.env.scope scope own) (ht : ∀ i ∈ tgIx t, i ∈ own.map (·.2))
    (hg : ∀ (s : Shared) (H : Hp) (C : Addr) (cl : List (Str × Addr)) (fp : List Addr), PG (X.blk s H scope (compEnvC scope cl C X.env) fp) tg (gX T VR t))
    (hf : ∀ (s : Shared) (H : Hp) (C : Addr) (cl : List (Str × Addr)) (fp : List Addr), PTs (X.blk s H scope (compEnvC scope cl C X.env) fp) ifs (tI T (evC P call xi)))
    (hk : ∀ (s : Shared) (H : Hp) (C : Addr) (cl : List (Str × Addr)) (fp : List Addr), PE (X.blk s H scope (compEnvC scope cl C X.env) fp) kxe (tX T (ev P call kx)))
    (he : ∀ (s : Shared) (H : Hp) (C : Addr) (cl : List (Str × Addr)) (fp : List Addr), PE (X.blk s H scope (compEnvC scope cl C X.env) fp) vxe (tX T (ev P call vx)))
    (hs : ∀ x, foldedSetIterable iter X.env x = pure x) : PE X (.DictComp kxe vxe [⟨tg, iter, ifs, 0⟩] scope pos) (tE T W0 (ev P call (.dcomp kx vx t it xi (own.map (·.2))))) :=
  (pe_dc hc hN hi ok hg hf hk he hs).mono fun σ H Q ⟨ρ, fr, c, γ, st, en, p⟩ => dcomp_run ht st en p
end
end MP
end
section
set_option maxRecDepth 100000
set_option maxHeartbeats 1000000
namespace MP
open PySem PySem.Spec PyProof.Rows L2

section
variable {T : Tab} {P : Prog} {call : Call} {X : Cx} {tg elt iter a : Expr} {x : E} {pos : Pos} {ifs : List Expr} {scope : Scope} {own : List (Str × Nat)} {VR : VRl} {t : Tg} {it : It} {xi : To} {m : Bool}
theorem SE_comp (hvr : ∀ T ρ H v d, Rep T ρ H v d → VR T ρ H v d) (hc : X.calm = true) (hN : X.N.Nodup) (hi : PI X tg iter (iS T VR (evI P call it))) (ok : BlkOk X.N X.env.scope scope own) (ht : ∀ i ∈ tgIx t, i ∈ own.map (·.2))
    (hg : ∀ (s : Shared) (H : Hp) (C : Addr) (cl : List (Str × Addr)) (fp : List Addr), PG (X.blk s H scope (compEnvC scope cl C X.env) fp) tg (gX T VR t))
    (hf : ∀ (s : Shared) (H : Hp) (C : Addr) (cl : List (Str × Addr)) (fp : List Addr), PTs (X.blk s H scope (compEnvC scope cl C X.env) fp) ifs (tI T (evC P call xi)))
    (he : ∀ (s : Shared) (H : Hp) (C : Addr) (cl : List (Str × Addr)) (fp : List Addr), PE (X.blk s H scope (compEnvC scope cl C X.env) fp) elt (tX T (ev P call x)))
    (hs : ∀ x, foldedSetIterable iter X.env x = pure x) : PE X (.ListComp elt [⟨tg, iter, ifs, 0⟩] scope pos) (tE T W0 (ev P call (.comp x t it xi (own.map (·.2)) m))) :=
  (pe_lc hc hN hi ok hg hf he hs).mono fun σ H Q ⟨ρ, fr, c, γ, st, en, p⟩ => comp_run hvr ht st en p
theorem SS_setLc (hvr : ∀ T ρ H v d, Rep T ρ H v d → VR T ρ H v d) {i : Nat} {y : Str} {py spos : Pos} (hc : X.calm = true) (hN : X.N.Nodup) (hy : X.N[i]? = some y) (hyl : X.env.scope.names.lookup y = some .local)
    (hsw : swapsWith (.ListComp elt [⟨tg, iter, ifs, 0⟩] scope pos) (some (.Name y py)) spos.line X.env = pure true) (hi : PI X tg iter (iS T VR (evI P call it))) (ok : BlkOk X.N X.env.scope scope own) (ht : ∀ i ∈ tgIx t, i ∈ own.map (·.2))
    (hg : ∀ (s : Shared) (H : Hp) (C : Addr) (cl : List (Str × Addr)) (fp : List Addr), PG (X.blk s H scope (compEnvC scope cl C X.env) fp) tg (gX T VR t))
    (hf : ∀ (s : Shared) (H : Hp) (C : Addr) (cl : List (Str × Addr)) (fp : List Addr), PTs (X.blk s H scope (compEnvC scope cl C X.env) fp) ifs (tI T (evC P call xi)))
    (he : ∀ (s : Shared) (H : Hp) (C : Addr) (cl : List (Str × Addr)) (fp : List Addr), PE (X.blk s H scope (compEnvC scope cl C X.env) fp) elt (tX T (ev P call x)))
    (hs : ∀ x, foldedSetIterable iter X.env x = pure x) : PS X (.Assign [.Name y py] (.ListComp elt [⟨tg, iter, ifs, 0⟩] scope pos) spos) (tS T (evS P call (.asg (.nm i) (.comp x t it xi (own.map (·.2)) m)))) := by
  refine (ps_setLc hc hN hy hyl hsw hi ok hg hf he hs).mono fun D σ H h => ?_
  obtain ⟨ρ, fr, c, γ, st, en, p⟩ := h
  unfold evS at p
  refine comp_run hvr (m := m) ht st en ?_
  refine p.bind.imp fun ρ1 H1 dd e01 ⟨c1, e1, s1, _, q⟩ => fun v r => ?_
  have q' : Post T fr (RFl T D) NoW ρ1 H1 (match (if i < γ.length then some (γ.set i (some dd)) else none : Option MP.Env) with
    | some γ => .ok (.nx γ) c1
    | none => .bad) := q
  by_cases hl : i < γ.length
  · rw [if_pos hl] at q'
    exact q' ρ1 H1 (Ext.refl _ _) s1 _ ((en.mono e1).set r hl)
  · rw [if_neg hl] at q'
    exact q'.elim
theorem SE_comp2 {tg2 iter2 : Expr} {ifs2 : List Expr} {VR2 : VRl} {t2 : Tg} {it2 : It} {xi2 : To} (hc : X.calm = true) (hN : X.N.Nodup) (hi : PI X tg iter (iS T VR (evI P call it))) (ok : BlkOk X.N X.env.scope scope own) (ht : ∀ i ∈ tgIx t, i ∈ own.map (·.2)) (ht2 : ∀ i ∈ tgIx t2, i ∈ own.map (·.2))
    (hg : ∀ (s : Shared) (H : Hp) (C : Addr) (cl : List (Str × Addr)) (fp : List Addr), PG (X.blk s H scope (compEnvC scope cl C X.env) fp) tg (gX T VR t))
    (hf : ∀ (s : Shared) (H : Hp) (C : Addr) (cl : List (Str × Addr)) (fp : List Addr), PTs (X.blk s H scope (compEnvC scope cl C X.env) fp) ifs (tI T (evC P call xi)))
    (hi2 : ∀ (s : Shared) (H : Hp) (C : Addr) (cl : List (Str × Addr)) (fp : List Addr), PI (X.blk s H scope (compEnvC scope cl C X.env) fp) tg2 iter2 (iX T VR2 (evI P call it2)))
    (hg2 : ∀ (s : Shared) (H : Hp) (C : Addr) (cl : List (Str × Addr)) (fp : List Addr), PG (X.blk s H scope (compEnvC scope cl C X.env) fp) tg2 (gX T VR2 t2))
    (hf2 : ∀ (s : Shared) (H : Hp) (C : Addr) (cl : List (Str × Addr)) (fp : List Addr), PTs (X.blk s H scope (compEnvC scope cl C X.env) fp) ifs2 (tI T (evC P call xi2)))
    (he : ∀ (s : Shared) (H : Hp) (C : Addr) (cl : List (Str × Addr)) (fp : List Addr), PE (X.blk s H scope (compEnvC scope cl C X.env) fp) elt (tX T (ev P call x)))
    (hs : ∀ x, foldedSetIterable iter X.env x = pure x) (hs2 : ∀ env x, foldedSetIterable iter2 env x = pure x) : PE X (.ListComp elt [⟨tg, iter, ifs, 0⟩, ⟨tg2, iter2, ifs2, 0⟩] scope pos) (tE T W0 (ev P call (.comp2 x t it xi t2 it2 xi2 (own.map (·.2)) (tgIx t2) m))) :=
  (pe_lc2 hc hN hi ok ht2 hg hf hi2 hg2 hf2 he hs hs2).mono fun σ H Q ⟨ρ, fr, c, γ, st, en, p⟩ => comp2_run ht (fun _ h => h) st en p
theorem SS_setLc2 {tg2 iter2 : Expr} {ifs2 : List Expr} {VR2 : VRl} {t2 : Tg} {it2 : It} {xi2 : To} {i : Nat} {y : Str} {py spos : Pos} (hc : X.calm = true) (hN : X.N.Nodup) (hy : X.N[i]? = some y) (hyl : X.env.scope.names.lookup y = some .local)
    (hsw : swapsWith (.ListComp elt [⟨tg, iter, ifs, 0⟩, ⟨tg2, iter2, ifs2, 0⟩] scope pos) (some (.Name y py)) spos.line X.env = pure true) (hi : PI X tg iter (iS T VR (evI P call it))) (ok : BlkOk X.N X.env.scope scope own) (ht : ∀ i ∈ tgIx t, i ∈ own.map (·.2)) (ht2 : ∀ i ∈ tgIx t2, i ∈ own.map (·.2))
    (hg : ∀ (s : Shared) (H : Hp) (C : Addr) (cl : List (Str × Addr)) (fp : List Addr), PG (X.blk s H scope (compEnvC scope cl C X.env) fp) tg (gX T VR t))
    (hf : ∀ (s : Shared) (H : Hp) (C : Addr) (cl : List (Str × Addr)) (fp : List Addr), PTs (X.blk s H scope (compEnvC scope cl C X.env) fp) ifs (tI T (evC P call xi)))
    (hi2 : ∀ (s : Shared) (H : Hp) (C : Addr) (cl : List (Str × Addr)) (fp : List Addr), PI (X.blk s H scope (compEnvC scope cl C X.env) fp) tg2 iter2 (iX T VR2 (evI P call it2)))
    (hg2 : ∀ (s : Shared) (H : Hp) (C : Addr) (cl : List (Str × Addr)) (fp : List Addr), PG (X.blk s H scope (compEnvC scope cl C X.env) fp) tg2 (gX T VR2 t2))
    (hf2 : ∀ (s : Shared) (H : Hp) (C : Addr) (cl : List (Str × Addr)) (fp : List Addr), PTs (X.blk s H scope (compEnvC scope cl C X.env) fp) ifs2 (tI T (evC P call xi2)))
    (he : ∀ (s : Shared) (H : Hp) (C : Addr) (cl : List (Str × Addr)) (fp : List Addr), PE (X.blk s H scope (compEnvC scope cl C X.env) fp) elt (tX T (ev P call x)))
    (hs : ∀ x, foldedSetIterable iter X.env x = pure x) (hs2 : ∀ env x, foldedSetIterable iter2 env x = pure x) :
    PS X (.Assign [.Name y py] (.ListComp elt [⟨tg, iter, ifs, 0⟩, ⟨tg2, iter2, ifs2, 0⟩] scope pos) spos) (tS T (evS P call (.asg (.nm i) (.comp2 x t it xi t2 it2 xi2 (own.map (·.2)) (tgIx t2) m)))) := by
  refine (ps_setLc2 hc hN hy hyl hsw hi ok ht2 hg hf hi2 hg2 hf2 he hs hs2).mono fun D σ H h => ?_
  obtain ⟨ρ, fr, c, γ, st, en, p⟩ := h
  unfold evS at p
  refine comp2_run (m := m) ht (fun _ h => h) st en ?_
  refine p.bind.imp fun ρ1 H1 dd e01 ⟨c1, e1, s1, _, q⟩ => fun v r => ?_
  have q' : Post T fr (RFl T D) NoW ρ1 H1 (match (if i < γ.length then some (γ.set i (some dd)) else none : Option MP.Env) with
    | some γ => .ok (.nx γ) c1
    | none => .bad) := q
  by_cases hl : i < γ.length
  · rw [if_pos hl] at q'
    exact q' ρ1 H1 (Ext.refl _ _) s1 _ ((en.mono e1).set r hl)
  · rw [if_neg hl] at q'
    exact q'.elim
theorem IX_all {tg2 iter2 : Expr} {it2 : It} (h : ∀ h, PI X tg2 iter2 (iS (T.hide h) VR (evI P call it2))) : PI X tg2 iter2 (iX T VR (evI P call it2)) := ⟨fun pins s σ H R I ⟨hh, q⟩ => (h hh).run pins s σ H R I q⟩
theorem ST_none : PTs X [] (tI T (evC P call .none)) := ⟨fun pins s σ H Q I ⟨h, ρ, fr, c, γ, st, en, p⟩ => by
  unfold evC at p
  exact pts_nil.run pins s σ H Q I (p ρ H (Ext.refl _ _) st)⟩
theorem ST_some {tt : MP.T} (h : ∀ h, PT X a (tT (T.hide h) W0 (evT P call tt))) : PTs X [a] (tI T (evC P call (.some tt))) := ⟨fun pins s σ H Q I ⟨hh, ρ, fr, c, γ, st, en, p⟩ => by
  unfold evC at p
  exact (pts_one (h hh)).run pins s σ H Q I ⟨ρ, fr, c, γ, st, en, p⟩⟩
theorem SX_all (h : ∀ h, PE X a (tE (T.hide h) W0 (ev P call x))) : PE X a (tX T (ev P call x)) := ⟨fun pins s σ H Q I ⟨hh, q⟩ => (h hh).run pins s σ H Q I q⟩
theorem GX_all (h : ∀ h, PG X tg (gV (T.hide h) VR t)) : PG X tg (gX T VR t) := ⟨fun pins s σ H v u Q I r ⟨hh, q⟩ => (h hh).run pins s σ H v u Q I r q⟩
end

section
variable {T : Tab} {ρ ρ' r : List Addr} {H H' : Hp} {fr c c' : List Cell}
theorem Post.unE {α : Type} {R : List Addr → Hp → α → Prop} {r : Res α} (h : Post T fr R NoW ρ H (noExc r)) : Post T fr R NoW ρ H r := by
  cases r with
  | ok a c => exact h
  | exc x fs c => exact h.elim
  | bad => exact h
theorem Ext.cut (e : Ext ρ H ρ' H') : Ext ρ H ρ H' := ⟨⟨[], by simp⟩, e.keepN, fun a m => .inl m, e.gone⟩
theorem freeze_rep {v : V} {d d' : D} (hf : fr.length = ρ.length) (st : StoreOk T (ρ ++ r) H (fr ++ c)) (rv : Rep T (ρ ++ r) H v d) (h : freeze fr.length c d = some d') : Rep T ρ H v d' := by
  have plain : ∀ {d : D}, Rep T (ρ ++ r) H v d → (if closed fr.length d then some d else none) = some d' → Rep T ρ H v d' := fun {d} rv h => by
    by_cases z : closed fr.length d = true
    · rw [if_pos z] at h; cases h
      exact rv.shrink (by rw [← hf]; exact z)
    · rw [if_neg z] at h; cases h
  cases d with
  | ref n =>
    have h1 : (if n < fr.length then some (.ref n) else match cellAt fr.length c n with
      | some (.lst xs) => if closedL fr.length xs then some (D.lst xs) else none
      | _ => none) = some d' := h
    by_cases hn : n < fr.length
    · rw [if_pos hn] at h1; cases h1
      exact rv.shrink (Nat.ble_eq_true_of_le (by omega))
    · rw [if_neg hn] at h1
      cases hc : cellAt fr.length c n with
      | none => rw [hc] at h1; cases h1
      | some ce =>
        rw [hc] at h1
        obtain ⟨a, rfl, ha, q⟩ := Rep.cell rv st hc
        cases q with
        | @lst vs xs e q =>
          have h2 : (if closedL fr.length xs then some (D.lst xs) else none) = some d' := h1
          by_cases z : closedL fr.length xs = true
          · rw [if_pos z] at h2; cases h2
            refine .lst e ⟨fun m => ?_, fun m => (st.hd a m).2 (List.mem_of_getElem? ha)⟩ (RepL.shrink q (by rw [← hf]; exact z))
            have hlt : ρ.length ≤ n := by omega
            rw [List.getElem?_append_right hlt] at ha
            exact (List.nodup_append.mp st.nd).2.2 a m a (List.mem_of_getElem? ha) rfl
          · rw [if_neg z] at h2; cases h2
        | ins _ _ _ => cases h1
        | exn0 _ _ => cases h1
        | exn _ _ _ _ _ _ => cases h1
  | non => exact plain rv h
  | bl _ => exact plain rv h
  | int _ => exact plain rv h
  | str _ => exact plain rv h
  | tup _ => exact plain rv h
  | lst _ => exact plain rv h
  | dic _ => exact plain rv h
  | ins _ _ => exact plain rv h
  | cls _ => exact plain rv h
  | fn _ => exact plain rv h
  | lam _ _ => exact plain rv h
  | scr _ => exact plain rv h
theorem env_start {N : List Str} {vs : List V} {ds : List D} (r : RepAL T ρ H vs ds) : EnvOk T ρ H (L2.start N vs) (ds.map some ++ List.replicate (N.length - ds.length) none) := by
  have hl := r.length
  refine ⟨by unfold L2.start; simp [hl], fun i d e => ?_⟩
  unfold L2.start
  by_cases hi : i < ds.length
  · rw [List.getElem?_append_left (by simpa using hi), List.getElem?_map] at e
    cases q : ds[i]? with
    | none => rw [q] at e; cases e
    | some d' =>
      rw [q] at e
      have ed : d' = d := by simpa using e
      subst ed
      obtain ⟨v, h1, h2⟩ := r.get q
      exact ⟨v, by rw [List.getElem?_append_left (by simpa [hl] using hi), List.getElem?_map, h1]; rfl, h2⟩
  · rw [List.getElem?_append_right (by simpa using hi)] at e
    rw [List.getElem?_replicate] at e
    split at e <;> cases e
/-- what a body must do -/
def BodyOk (T : Tab) (P : Prog) (call : Call) (X : Cx) (body : List Stmt) (F : Fun) : Prop := PSs X body (tS T (evSs P call F.body))
theorem run_keep {P : Prog} {call : Call} {F : Fun} {ds : List D} {vs : List V} {Q : VK} (st : StoreOk T ρ H (fr ++ c)) (r : RepAL T ρ H vs ds) (p : Post T fr (RQ T Q) NoW ρ H (run P call F ds fr.length c)) :
    tS T (evSs P call F.body) { nx := fun _ H' => Q .non H', rt := Q } (L2.start F.N vs) H := by
  have p1 : Post T fr (RQ T Q) NoW ρ H (if ds.length = F.np then (evSs P call F.body (ds.map some ++ List.replicate (F.N.length - ds.length) none) fr.length c).bind fun f c => match f with
    | .rt d => .ok d c
    | .nx _ => .ok .non c
    | _ => .bad else .bad) := p
  by_cases hn : ds.length = F.np
  · rw [if_pos hn] at p1
    refine ⟨ρ, fr, c, _, st, env_start r, p1.bind.imp fun ρ1 H1 fl _ ⟨c1, e1, s1, _, q⟩ => ?_⟩
    cases fl with
    | nx γ => exact fun σ' _ => q ρ1 H1 (Ext.refl _ _) s1 _ .non
    | bk γ => exact q.elim
    | ct γ => exact q.elim
    | rt d => exact fun v rv => q ρ1 H1 (Ext.refl _ _) s1 v rv
  · rw [if_neg hn] at p1
    exact p1.elim
theorem run_pure {P : Prog} {call : Call} {F : Fun} {ds : List D} {vs : List V} {Q : VK} (st : StoreOk T ρ H (fr ++ c)) (r : RepAL T ρ H vs ds)
    (p : Post T fr (RQ T Q) NoW ρ H (noExc (match run P call F ds (fr.length + c.length) [] with
    | .ok d [] => .ok d c
    | .ok d c' => (match freeze (fr.length + c.length) c' d with
      | some d => .ok d c
      | none => .bad)
    | .exc x fs [] => .exc x fs c
    | .exc x fs _ => if closedF (fr.length + c.length) fs then .exc x fs c else .bad
    | .bad => .bad))) : tS T (evSs P call F.body) { nx := fun _ H' => Q .non H', rt := Q } (L2.start F.N vs) H := by
  have hb : (fr ++ c).length = fr.length + c.length := List.length_append
  refine run_keep (fr := fr ++ c) (c := []) (by rw [List.append_nil]; exact st) r ?_
  rw [hb]
  cases hr : run P call F ds (fr.length + c.length) [] with
  | bad => rw [hr] at p; exact p.elim
  | exc x fs c' => rw [hr] at p; cases c' <;> first | exact p.elim | (dsimp only at p; split at p <;> exact p.elim)
  | ok d c' =>
    rw [hr] at p
    cases c' with
    | nil => exact fun ρ' H' e s v rv => p ρ' H' e (by rw [List.append_nil] at s; exact s) v rv
    | cons c0 c1 =>
      have p1 : Post T fr (RQ T Q) NoW ρ H (noExc (match freeze (fr.length + c.length) (c0 :: c1) d with
        | some d => .ok d c
        | none => .bad)) := p
      cases hz : freeze (fr.length + c.length) (c0 :: c1) d with
      | none => rw [hz] at p1; exact p1.elim
      | some d' =>
        rw [hz] at p1
        intro ρ' H' e s v rv
        obtain ⟨r2, rfl⟩ := e.pre
        have hl : (fr ++ c).length = ρ.length := st.len.symm
        exact p1 ρ H' e.cut (s.shrink hl st.closed) v (freeze_rep hl s rv (by rw [hb]; exact hz))
theorem run_trunc {P : Prog} {call : Call} {F : Fun} {ds : List D} {vs : List V} {Q : VK} (st : StoreOk T ρ H (fr ++ c)) (r : RepAL T ρ H vs ds)
    (p : Post T fr (RQ T Q) NoW ρ H (noExc (match run P call F ds fr.length c with
    | .ok d c' => if (c'.take c.length).all (Cell.closed (fr.length + c.length)) && decide (c.length ≤ c'.length) then (match freeze (fr.length + c.length) (c'.drop c.length) d with
      | some d => .ok d (c'.take c.length)
      | none => .bad) else .bad
    | .exc x fs c' => if (c'.take c.length).all (Cell.closed (fr.length + c.length)) && (decide (c.length ≤ c'.length) && closedF (fr.length + c.length) fs) then .exc x fs (c'.take c.length) else .bad
    | .bad => .bad))) : tS T (evSs P call F.body) { nx := fun _ H' => Q .non H', rt := Q } (L2.start F.N vs) H := by
  have hb : (fr ++ c).length = fr.length + c.length := List.length_append
  refine run_keep st r ?_
  cases hr : run P call F ds fr.length c with
  | bad => rw [hr] at p; exact p.elim
  | exc x fs c' => rw [hr] at p; dsimp only at p; split at p <;> exact p.elim
  | ok d c' =>
    rw [hr] at p
    have p1 : Post T fr (RQ T Q) NoW ρ H (noExc (if (c'.take c.length).all (Cell.closed (fr.length + c.length)) && decide (c.length ≤ c'.length) then (match freeze (fr.length + c.length) (c'.drop c.length) d with
      | some d => .ok d (c'.take c.length)
      | none => .bad) else .bad)) := p
    by_cases hz : ((c'.take c.length).all (Cell.closed (fr.length + c.length)) && decide (c.length ≤ c'.length)) = true
    · rw [if_pos hz] at p1
      rw [Bool.and_eq_true, decide_eq_true_eq] at hz
      cases hq : freeze (fr.length + c.length) (c'.drop c.length) d with
      | none => rw [hq] at p1; exact p1.elim
      | some d' =>
        rw [hq] at p1
        intro ρ' H' e s v rv
        obtain ⟨r2, rfl⟩ := e.pre
        have hl : fr.length + c.length = ρ.length := by rw [← hb]; exact st.len.symm
        have ht : (c'.take c.length).length = c.length := by rw [List.length_take]; omega
        have s2 : StoreOk T (ρ ++ r2) H' ((fr ++ c'.take c.length) ++ c'.drop c.length) := by rw [List.append_assoc, List.take_append_drop]; exact s
        have hlt : (fr ++ c'.take c.length).length = ρ.length := by rw [List.length_append, ht]; exact hl
        have hcl : (fr ++ c'.take c.length).all (Cell.closed ρ.length) = true := by
          rw [List.all_append, Bool.and_eq_true]
          have h0 := st.closed
          rw [List.all_append, Bool.and_eq_true] at h0
          exact ⟨h0.1, by rw [← hl]; exact hz.1⟩
        exact p1 ρ H' e.cut (s2.shrink hlt hcl) v (freeze_rep hlt s2 rv (by rw [hlt, ← hl]; exact hq))
    · rw [if_neg hz] at p1
      exact p1.elim
/-- a def's promise, by its body's data -/
theorem body_of {P : Prog} {f : Str} {F : Fun} {n : Nat} (hF : P.fun? f = some F) {vs : List V} {Q : VK} {E : XK} (h : spF T (calls P (n + 1)) f vs H Q E) : tS T (evSs P (calls P n) F.body) { nx := fun _ H' => Q .non H', rt := Q } (L2.start F.N vs) H := by
  obtain ⟨ρ, fr, c, ds, st, r, p⟩ := h
  have hc : calls P (n + 1) f ds fr.length c = callBy P (calls P n) F ds fr.length c := by
    show (match P.fun? f with
      | some F => callBy P (calls P n) F ds fr.length c
      | none => .bad) = _
    rw [hF]
  rw [hc] at p
  unfold callBy at p
  cases hm : F.mode with
  | keep => rw [hm] at p; exact run_keep st r p.unE
  | pure => rw [hm] at p; exact run_pure st r p
  | trunc => rw [hm] at p; exact run_trunc st r p
theorem spF_len {P : Prog} {f : Str} {F : Fun} {n : Nat} (hF : P.fun? f = some F) {vs : List V} {Q : VK} {E : XK} (h : spF T (calls P (n + 1)) f vs H Q E) : vs.length = F.np := by
  obtain ⟨ρ, fr, c, ds, st, r, p⟩ := h
  rw [r.length]
  refine Classical.byContradiction fun hn => ?_
  have bad : ∀ b c, run P (calls P n) F ds b c = .bad := fun b c => by unfold run; rw [if_neg hn]
  have hc : calls P (n + 1) f ds fr.length c = callBy P (calls P n) F ds fr.length c := by
    show (match P.fun? f with
      | some F => callBy P (calls P n) F ds fr.length c
      | none => .bad) = _
    rw [hF]
  rw [hc] at p
  unfold callBy at p
  cases hm : F.mode <;> rw [hm] at p <;> simp only [bad] at p <;> exact p
/-- THE RULE for a def: its body's soundness makes its promise -/
theorem fnG_of {P : Prog} {f : Str} {F : Fun} {n k : Nat} {prog : Program} {w : World} {mg : Str → Option Value} {base : Heap} {x qual : Str} {params : Arguments} {body : List Stmt} {scope : Scope} {dvs : List V} {kws : List (Str × V)} {fa : Addr} {fd : FuncData} {ps : List Str}
    (hF : P.fun? f = some F) (D : FunD T.K x qual params body scope dvs kws fa fd) (S : FnScope F.N ps scope) (hn : F.np = ps.length)
    (hb : ∀ (cdv : Value) (A : Around) (outer : List PySem.Env) (s : Shared) (H : Hp), fd.code = cdv → RoomG k (A.deeper (envOfC qual scope s.heap.objs.size fa cdv)) → PSs (cxOf CX0 prog w T.K mg base F.N qual scope fa cdv A outer s H E0).nox body (tS T (evSs P (calls P n) F.body))) :
    FnOkG prog w T.K mg base CX0 (k + 1) fa fd ps (spF T (calls P (n + 1)) f) := by
  refine fnG_body D S (fun vs H Q E h => by rw [← hn]; exact spF_len hF h) fun cdv A outer s H vs Q E hcd hr hsp => ?_
  exact ⟨_, (hb cdv A outer s H hcd hr).nox, body_of hF hsp⟩
end
end MP
end
section
set_option maxRecDepth 100000
set_option maxHeartbeats 1000000
namespace MP
open PySem PySem.Spec PyProof.Rows L2
open Classical in
noncomputable def mix (A B : Hp) (S : List Addr) : Hp := fun b => if b ∈ S then A b else B b
theorem mix_in {A B : Hp} {S : List Addr} {b : Addr} (h : b ∈ S) : mix A B S b = A b := by unfold mix; rw [if_pos h]
theorem mix_out {A B : Hp} {S : List Addr} {b : Addr} (h : b ∉ S) : mix A B S b = B b := by unfold mix; rw [if_neg h]
abbrev noH : Hp := fun _ => none
section
variable {P : Program} {w : World} {K : PySem.W.Frag} {mg : Str → Option Value} {base : Heap} {A0 : Around} {outer : List PySem.Env} {s s' : Shared} {H A B : Hp} {S : List Addr} {h : Heap} {Q Q' : VK} {u : Value}
theorem hok_rem (x : HOk P w H h) (hS : ∀ b ∈ S, ∃ o, H b = some (KO o)) : HOk P w (mix noH H S) h := fun a o e => by
  have nm : ∀ b v, H b = some v → (∀ o, v ≠ KO o) → b ∉ S := fun b v q z m => by
    obtain ⟨o', e'⟩ := hS b m
    rw [q] at e'
    exact z o' (Option.some.inj e')
  by_cases ha : a ∈ S
  · rw [mix_in ha] at e; cases e
  · rw [mix_out ha] at e
    exact (x a o e).stay (fun b u _ q => q) (fun b q => by rw [mix_out (nm b _ q fun o z => by unfold KO at z; cases z)]; exact q) fun b xs q => by rw [mix_out (nm b _ q fun o z => by unfold KO at z; cases z)]; exact q
theorem hok_put (x : HOk P w B h) (hS : ∀ b ∈ S, ∃ o, A b = some (KO o) ∧ h.get? b = some o) (hn : ∀ b ∈ S, B b = none) : HOk P w (mix A B S) h := fun a o e => by
  have nm : ∀ b v, B b = some v → b ∉ S := fun b v q m => by rw [hn b m] at q; cases q
  by_cases ha : a ∈ S
  · rw [mix_in ha] at e
    obtain ⟨o', e1, e2⟩ := hS a ha
    rw [e1] at e; cases e
    exact ⟨e2, _, e2⟩
  · rw [mix_out ha] at e
    exact (x a o e).stay (fun b u _ q => q) (fun b q => by rw [mix_out (nm b _ q)]; exact q) fun b xs q => by rw [mix_out (nm b _ q)]; exact q
theorem env0_rem (e : Env0 P w K mg base A0 outer s H) (hS : ∀ b ∈ S, ∃ o, H b = some (KO o)) : Env0 P w K mg base A0 outer s (mix noH H S) :=
  have low : ∀ b, H b = none → mix noH H S b = none := fun b q => by
    by_cases hb : b ∈ S
    · rw [mix_in hb]
    · rw [mix_out hb]; exact q
  ⟨e.frames, e.mod, fun b o q => ⟨(e.bs b o q).1, low b (e.bs b o q).2⟩, e.bsz, e.funs, fun b m => low b (e.frf b m), hok_rem e.hok hS, e.bare⟩
theorem env0_put (e : Env0 P w K mg base A0 outer s H) (hS : ∀ b ∈ S, ∃ o, A b = some (KO o) ∧ s.heap.get? b = some o) (hn : ∀ b ∈ S, H b = none) (hb : ∀ b ∈ S, base.get? b = none) (hf : ∀ b ∈ S, b ∉ frs outer) : Env0 P w K mg base A0 outer s (mix A H S) :=
  ⟨e.frames, e.mod, fun b o q => ⟨(e.bs b o q).1, by rw [mix_out (fun m => by rw [hb b m] at q; cases q)]; exact (e.bs b o q).2⟩, e.bsz, e.funs, fun b m => by rw [mix_out fun z => hf b z m]; exact e.frf b m, hok_put e.hok hS hn, e.bare⟩
/-- behind a call, what was known for it alone is forgotten -/
theorem ce_put (c : CE outer P w (mix A H S) s Q' u s') (hS : ∀ b ∈ S, ∃ o, A b = some (KO o) ∧ s.heap.get? b = some o) (hn : ∀ b ∈ S, H b = none) (k : ∀ v H', (∀ b ∈ S, H' b = A b) → Q' v H' → Q v (mix noH H' S)) : CE outer P w H s Q u s' := by
  obtain ⟨v, H', os, bare, un, hok, rv, q⟩ := c
  have kp : ∀ b ∈ S, H' b = A b := fun b m => by
    obtain ⟨o, e1, _⟩ := hS b m
    rw [e1]
    exact un.frzs b o _ (by rw [mix_in m]; exact e1)
  have out : ∀ b v, H b = some v → b ∉ S := fun b v q m => by rw [hn b m] at q; cases q
  have out2 : ∀ b v, H' b = some v → (∀ o, v ≠ KO o) → b ∉ S := fun b v q z m => by
    obtain ⟨o, e1, _⟩ := hS b m
    rw [kp b m, e1] at q
    exact z o (Option.some.inj q).symm
  refine ⟨v, mix noH H' S, os, bare, ?_, hok_rem hok fun b m => ?_, rv, k v H' kp q⟩
  · refine ⟨fun b o g n hb hx => ?_, fun b o g n hb hx => ?_, fun b o g n hx => ?_, un.there, fun b xs g => ?_, fun b o v g => ?_, fun b ps g => ?_⟩
    · by_cases m : b ∈ S
      · obtain ⟨o', e1, e2⟩ := hS b m
        rw [g] at e2; cases e2
        obtain ⟨z, _⟩ := (show ObjOk P w H' s'.heap b (KO o) from hok b _ ((kp b m).trans e1))
        exact z
      · exact un.keep b o g (by rw [mix_out m]; exact n) hb hx
    · by_cases m : b ∈ S
      · obtain ⟨o', e1, e2⟩ := hS b m
        rw [g] at e2; cases e2
        obtain ⟨z, _⟩ := (show ObjOk P w H' s'.heap b (KO o) from hok b _ ((kp b m).trans e1))
        exact ⟨o.slots, z⟩
      · exact un.slot b o g (by rw [mix_out m]; exact n) hb hx
    · by_cases m : b ∈ S
      · rw [mix_in m]
      · rw [mix_out m]; exact un.free b o g (by rw [mix_out m]; exact n) hx
    · have m := out b _ g
      rw [mix_out (out2 b _ (un.tups b xs (by rw [mix_out m]; exact g)) fun o z => by unfold KO at z; cases z)]
      exact un.tups b xs (by rw [mix_out m]; exact g)
    · have m := out b _ g
      rw [mix_out m]
      exact un.frzs b o v (by rw [mix_out m]; exact g)
    · have m := out b _ g
      obtain ⟨more, e⟩ := un.tbls b ps (by rw [mix_out m]; exact g)
      exact ⟨more, by rw [mix_out m]; exact e⟩
  · obtain ⟨o, e1, _⟩ := hS b m
    exact ⟨o, (kp b m).trans e1⟩
/-- behind a call that ran without what is known, it is known again -/
theorem ce_rem (c : CE outer P w (mix noH H S) s Q' u s') (hok0 : HOk P w H s.heap) (hS : ∀ b ∈ S, ∃ o, H b = some (KO o)) (hf : ∀ b ∈ frs outer, H b = none) (k : ∀ v H', (∀ b ∈ S, H' b = none) → Q' v H' → Q v (mix H H' S)) : CE outer P w H s Q u s' := by
  obtain ⟨v, H', os, bare, un, hok, rv, q⟩ := c
  have hp : ∀ b ∈ S, ∃ o, H b = some (KO o) ∧ s.heap.get? b = some o := fun b m => by
    obtain ⟨o, e⟩ := hS b m
    obtain ⟨z, _⟩ := (show ObjOk P w H s.heap b (KO o) from hok0 b _ e)
    exact ⟨o, e, z⟩
  have nf : ∀ b ∈ S, b ∉ frs outer := fun b m z => by
    obtain ⟨o, e⟩ := hS b m
    rw [hf b z] at e; cases e
  have hn : ∀ b ∈ S, H' b = none := fun b m => by
    obtain ⟨o, _, e⟩ := hp b m
    exact un.free b o e (mix_in m) (by simp)
  have hp' : ∀ b ∈ S, ∃ o, H b = some (KO o) ∧ s'.heap.get? b = some o := fun b m => by
    obtain ⟨o, e1, e2⟩ := hp b m
    exact ⟨o, e1, un.keep b o e2 (mix_in m) (nf b m) (by simp)⟩
  have low : ∀ b, H b = none → mix noH H S b = none := fun b q => by
    by_cases hb : b ∈ S
    · rw [mix_in hb]
    · rw [mix_out hb]; exact q
  have out : ∀ b v, H b = some v → (∀ o, v ≠ KO o) → b ∉ S := fun b v q z m => by
    obtain ⟨o, e1⟩ := hS b m
    rw [e1] at q
    exact z o (Option.some.inj q).symm
  have outn : ∀ b, H b = none → b ∉ S := fun b q m => by
    obtain ⟨o, e1⟩ := hS b m
    rw [e1] at q; cases q
  refine ⟨v, mix H H' S, os, bare, ?_, hok_put hok hp' hn, rv, k v H' hn q⟩
  refine ⟨fun b o g n hb hx => un.keep b o g (low b n) hb hx, fun b o g n hb hx => un.slot b o g (low b n) hb hx, fun b o g n hx => ?_, un.there, fun b xs g => ?_, fun b o v g => ?_, fun b ps g => ?_⟩
  · rw [mix_out (outn b n)]; exact un.free b o g (low b n) hx
  · have m := out b _ g fun o z => by unfold KO at z; cases z
    rw [mix_out m]; exact un.tups b xs (by rw [mix_out m]; exact g)
  · by_cases m : b ∈ S
    · rw [mix_in m]; exact g
    · rw [mix_out m]; exact un.frzs b o v (by rw [mix_out m]; exact g)
  · have m := out b _ g fun o z => by unfold KO at z; cases z
    rw [mix_out m]; exact un.tbls b ps (by rw [mix_out m]; exact g)
end
section
variable {T : Tab} {ρ : List Addr} {H A : Hp} {S : List Addr}
theorem off {a : Addr} {v : HO} (hS : ∀ b ∈ S, ∃ o, H b = some (KO o)) (e : H a = some v) (z : ∀ o, v ≠ KO o) : mix noH H S a = some v := by
  rw [mix_out fun m => by
    obtain ⟨o, q⟩ := hS a m
    rw [e] at q
    exact z o (Option.some.inj q)]
  exact e
mutual
theorem Rep.rem (hS : ∀ b ∈ S, ∃ o, H b = some (KO o)) : ∀ {v : V} {d : D}, Rep T ρ H v d → Rep T ρ (mix noH H S) v d
  | _, _, .non => .non
  | _, _, .bl b => .bl b
  | _, _, .int i => .int i
  | _, _, .str s => .str s
  | _, _, .tup h d n r => .tup (off hS h fun o z => by unfold KO at z; cases z) d n (RepL.rem hS r)
  | _, _, .tupK h r => .tupK h (RepL.rem hS r)
  | _, _, .lst h n r => .lst (off hS h fun o z => by unfold KO at z; cases z) n (RepL.rem hS r)
  | _, _, .dic h n r => .dic (off hS h fun o z => by unfold KO at z; cases z) n (RepK.rem hS r)
  | _, _, .ins h c n r => .ins (off hS h fun o z => by unfold KO at z; cases z) c n (RepF.rem hS r)
  | _, _, .ref h => .ref h
  | _, _, .cls h => .cls h
  | _, _, .fn h => .fn h
  | _, _, .scr h n => .scr (off hS h fun o z => by unfold KO at z; cases z) n
  | _, _, .scrK h => .scrK h
theorem RepL.rem (hS : ∀ b ∈ S, ∃ o, H b = some (KO o)) : ∀ {vs : List V} {ds : List D}, RepL T ρ H vs ds → RepL T ρ (mix noH H S) vs ds
  | _, _, .nil => .nil
  | _, _, .cons h r => .cons (Rep.rem hS h) (RepL.rem hS r)
theorem RepK.rem (hS : ∀ b ∈ S, ∃ o, H b = some (KO o)) : ∀ {vs : List (Key × V)} {ds : List (D × D)}, RepK T ρ H vs ds → RepK T ρ (mix noH H S) vs ds
  | _, _, .nil => .nil
  | _, _, .cons h r => .cons (Rep.rem hS h) (RepK.rem hS r)
theorem RepF.rem (hS : ∀ b ∈ S, ∃ o, H b = some (KO o)) : ∀ {vs : List (Str × V)} {ds : List (Str × D)}, RepF T ρ H vs ds → RepF T ρ (mix noH H S) vs ds
  | _, _, .nil => .nil
  | _, _, .cons h r => .cons (Rep.rem hS h) (RepF.rem hS r)
end
theorem CellAt.rem {a : Addr} {c : Cell} (hS : ∀ b ∈ S, ∃ o, H b = some (KO o)) (h : CellAt T ρ H a c) : CellAt T ρ (mix noH H S) a c := by
  cases h with
  | lst h r => exact .lst (off hS h fun o z => by unfold KO at z; cases z) (r.rem hS)
  | ins h c r => exact .ins (off hS h fun o z => by unfold KO at z; cases z) c (r.rem hS)
  | exn0 h c => exact .exn0 (off hS h fun o z => by unfold KO exo at z; cases z) c
  | exn h d n c r z => exact .exn (off hS h fun o z => by unfold KO exo at z; cases z) (off hS d fun o z => by unfold KO exd at z; cases z) n c (r.rem hS) z
theorem tabs_rem (hS : ∀ b ∈ S, ∃ o, H b = some (KO o)) (t : LamX.Tabs T.tb H) : LamX.Tabs T.tb (mix noH H S) := fun p hp => by
  obtain ⟨ps, h1, h2, h3⟩ := t p hp
  refine ⟨ps, off hS h1 (fun o z => by unfold KO at z; cases z), h2, fun pos cv hc => ?_⟩
  obtain ⟨c, e1, e2⟩ := h3 pos cv hc
  exact ⟨c, e1, off hS e2 fun o z => by unfold KO LamX.CodeO at z; cases z⟩
theorem StoreOk.rem {cs : List Cell} (hS : ∀ b ∈ S, ∃ o, H b = some (KO o)) (ho : ∀ b ∈ S, b ∉ T.hid) (s : StoreOk T ρ H cs) : StoreOk T ρ (mix noH H S) cs :=
  ⟨s.len, s.nd, fun n c e => let ⟨a, h1, h2⟩ := s.at_ n c e; ⟨a, h1, h2.rem hS⟩, tabs_rem hS s.tb, fun a ha => ⟨by rw [mix_out fun m => ho a m ha]; exact (s.hd a ha).1, (s.hd a ha).2⟩, fun a ha φ => by rw [mix_out fun m => ho a m ha]; exact s.hx a ha φ⟩
theorem ext_put (hn : ∀ b ∈ S, H b = none) (hA : ∀ b ∈ S, A b ≠ none) : Ext ρ H ρ (mix A H S) where
  pre := ⟨[], by simp⟩
  keepN := fun a o e _ _ => by rw [mix_out fun m => by rw [hn a m] at e; cases e]; exact e
  new := fun a m => .inl m
  gone := fun a z => .inr (by
    by_cases m : a ∈ S
    · rw [mix_in m] at z; exact (hA a m z).elim
    · rw [mix_out m] at z; exact z)
theorem StoreOk.put {cs : List Cell} (hn : ∀ b ∈ S, H b = none) (hA : ∀ b ∈ S, A b ≠ none) (s : StoreOk T ρ H cs) : StoreOk T ρ (mix A H S) cs := by
  have at_ : ∀ a u, H a = some u → mix A H S a = some u := fun a u e => by rw [mix_out fun m => by rw [hn a m] at e; cases e]; exact e
  refine ⟨s.len, s.nd, fun n c e => ?_, s.tb.ext fun b u e => at_ b u e, fun a ha => ⟨fun z => ?_, (s.hd a ha).2⟩, fun a ha φ => by rw [mix_out fun m => (s.hd a ha).1 (hn a m)]; exact s.hx a ha φ⟩
  · obtain ⟨a, h1, h2⟩ := s.at_ n c e
    obtain ⟨u, hu⟩ := h2.there
    exact ⟨a, h1, h2.keep (ext_put hn hA) ((at_ a u hu).trans hu.symm)⟩
  · by_cases m : a ∈ S
    · rw [mix_in m] at z; exact hA a m z
    · rw [mix_out m] at z; exact (s.hd a ha).1 z
end
/-- what T tells of lambdas is so -/
structure LpF (P : Program) (w : World) (K : PySem.W.Frag) (mg : Str → Option Value) (base : Heap) (k : Nat) (T : Tab) (call : Call) : Prop where
  at_ : ∀ params body scope ps fr x sz, T.lp params body scope ps fr x sz → ∃ N, NdefX.NScope N ps fr scope ∧ N.length = sz ∧
    (∀ (q : Str) (cl : List (Str × Addr)) (pm cv ctv : Value) (us : List Value), us.length = ps.length → bindArgs (PySem.W.kla_fn "<lambda>" q params body scope cl pm cv ctv) ⟨us, []⟩ = pure (ps.zip us)) ∧
    ∀ (F : NdefX.NF) (f : Addr) (A : Around) (outer : List PySem.Env) (s : Shared) (H : Hp), F.scope = scope → RoomG k (A.deeper (NdefX.envF F f s.heap.objs.size)) → PE (NdefX.ncx CX0 P w K mg base N F f A outer s H E0).nox body (tE T W0 (call.lm x))
def LamOk (P : Program) (w : World) (K : PySem.W.Frag) (mg : Str → Option Value) (base : Heap) (k : Nat) (T : Tab) (call : Call) : Prop :=
  ∀ (A : Around) (outer : List PySem.Env) (s : Shared) (H : Hp) (us : List Value) (vs : List V) (Q : VK) (ρ : List Addr) (fr c : List Cell) (a : Addr) (x : E) (sz np : Nat) (cs ds : List D), RoomG k A → Env0 P w K mg base A outer s H → StoreOk T ρ H (fr ++ c) → LamAt T ρ H a x sz np cs → Vals vs us → RepL T ρ H vs ds → ds.length = np →
    Post T fr (RQ T Q) NoW ρ H (noExc (call.lm x ((ds ++ cs).map some ++ List.replicate (sz - (ds ++ cs).length) none) fr.length c)) → codeAny (model P w) A (.call (.ref a) ⟨us, []⟩) (CR CX0 outer P w H s Q E0) s
theorem LamOk.at_ {X : Cx} {k : Nat} {T : Tab} {call : Call} (L : LamOk X.prog X.w X.K X.mg X.base k T call) (hr : RoomG k X.A) : LamR X T call := by
  intro pins s σ H us vs Q ρ fr c a x sz np cs ds I st la rv rl hn p
  refine wpAny_call (codeAny_mono (L X.A X.stack s H us vs Q ρ fr c a x sz np cs ds hr I.env0 st la rv rl hn p) fun res t q => ?_)
  rcases res with er | fl
  · exact q.elim
  · cases fl <;> first | exact I.after q | exact q.elim
theorem startF_eq {N : List Str} {vs wv : List V} : NdefX.startF N vs (wv.map some) = L2.start N (vs ++ wv) := by
  unfold NdefX.startF L2.start
  rw [List.map_append, List.append_assoc, List.length_map, List.length_append, Nat.sub_sub]
theorem lamOk_of {P : Program} {w : World} {K : PySem.W.Frag} {mg : Str → Option Value} {base : Heap} {k : Nat} {T : Tab} {call : Call} (hL : LpF P w K mg base k T call) : LamOk P w K mg base (k + 1) T call := by
  intro A outer s H us vs Q ρ fr c a x sz np cs ds hr e0 st la rv rl hnp p
  obtain ⟨params, body, scope, ps, fv, qual, cl, c', pm, ctv, hlp, hps, ha, na, hc', nc', inj, sub, wv, rw_, hw, caps⟩ := la
  obtain ⟨N, S, hN, hb, hbody⟩ := hL.at_ _ _ _ _ _ _ _ hlp
  let S0 : List Addr := fv.filterMap fun y => cl.lookup y
  have mem0 : ∀ b, b ∈ S0 → ∃ (i : Nat) (y : Str), fv[i]? = some y ∧ cl.lookup y = some b := fun b m => by
    obtain ⟨y, m1, m2⟩ := List.mem_filterMap.mp m
    obtain ⟨i, hi⟩ := List.getElem?_of_mem m1
    exact ⟨i, y, hi, m2⟩
  have info : ∀ b ∈ S0, (∃ o, H b = some (KO o)) ∧ Out T ρ b := fun b m => by
    obtain ⟨i, y, h1, h2⟩ := mem0 b m
    obtain ⟨c0, o, u, v, q1, q2, q3, q4, q5, q6⟩ := caps i y h1
    rw [h2] at q1; cases q1
    exact ⟨⟨o, q3⟩, q4⟩
  have hS : ∀ b ∈ S0, ∃ o, H b = some (KO o) := fun b m => (info b m).1
  have e1 := env0_rem e0 hS
  have ho : s.heap.get? a = some (PySem.W.kla_obj "<lambda>" qual params body scope cl pm c' ctv) := (show ObjOk P w H s.heap a (KO _) from e0.hok a _ ha).1
  have lim : s.heap.NoLimit := e0.mod.nolimit.keeps fun b o e => (e0.bs b o e).1
  have hlv : vs.length = ps.length := by rw [rl.length, hnp, hps]
  let F : NdefX.NF := ⟨"<lambda>", qual, params, [], scope, cl, c'⟩
  have C : NdefX.CellsAt F.cl fv (wv.map some) s.heap (mix noH H S0) := by
    refine ⟨by rw [List.length_map]; exact hw, fun y c0 e => ?_, inj, fun i y e => ?_⟩
    · have m : c0 ∈ S0 := List.mem_filterMap.mpr ⟨y, sub y c0 e, e⟩
      obtain ⟨i, hi⟩ := List.getElem?_of_mem (sub y c0 e)
      obtain ⟨c1, o, u, v, q1, q2, q3, q4, q5, q6⟩ := caps i y hi
      rw [show cl.lookup y = some c0 from e] at q1; cases q1
      have g := (show ObjOk P w H s.heap c0 (KO o) from e0.hok c0 _ q3).1
      exact ⟨mix_in m, some u, o, g, q5⟩
    · obtain ⟨c1, o, u, v, q1, q2, q3, q4, q5, q6⟩ := caps i y e
      refine ⟨c1, q1, fun v' ev => ?_⟩
      rw [List.getElem?_map, q2] at ev
      cases ev
      have g := (show ObjOk P w H s.heap c1 (KO o) from e0.hok c1 _ q3).1
      exact ⟨u, q6, o, g, q5⟩
  refine PySem.W.kla_callFunE hr.depth ho rfl S.co S.gen rfl (NdefX.codeO_at e0.hok hc') ?_
  rw [hb qual cl pm (.ref c') ctv us (by rw [← rv.length]; exact hlv)]
  refine wpAny_pure (wpAny_newFunctionEnv S.nocell (fun ⟨n, _⟩ hy => S.par n (List.of_mem_zip hy).1) (fun h₁ hns hsb => ⟨lim.fresh _ hsb, ?_⟩) S.kind)
  show codeAny _ _ (.expr body (NdefX.envF F a s.heap.objs.size)) _ _
  have kp : ∀ b o, s.heap.get? b = some o → h₁.get? b = some o := fun b o e => hsb.extBut b o (Nat.ne_of_lt (Heap.lt_size e)) (Heap.get?_push_of_some _ e)
  have I := NdefX.inv_startN (CX := CX0) (E := E0) (F := F) (f := a) (tk := s.toks + (ps.zip us).length) S hr.hd e1 hlv rv C hns kp
  have stm := st.rem hS fun b m => (info b m).2.2
  have enm : EnvOk T ρ (mix noH H S0) (NdefX.startF N vs (wv.map some)) ((ds ++ cs).map some ++ List.replicate (sz - (ds ++ cs).length) none) := by
    rw [startF_eq, ← hN]
    exact env_start ((rl.append rw_).rem hS).A
  have pm2 : Post T fr (RQ T fun v H' => (∀ b ∈ S0, H' b = none) → Q v (mix H H' S0)) (WS W0 (NdefX.startF N vs (wv.map some))) ρ (mix noH H S0) (call.lm x ((ds ++ cs).map some ++ List.replicate (sz - (ds ++ cs).length) none) fr.length c) := by
    cases hres : call.lm x ((ds ++ cs).map some ++ List.replicate (sz - (ds ++ cs).length) none) fr.length c with
    | bad => rw [hres] at p; exact p.elim
    | exc _ _ _ => rw [hres] at p; exact p.elim
    | ok d c2 =>
      rw [hres] at p
      intro ρ' H' ex st' v r' hn
      have hA : ∀ b ∈ S0, H b ≠ none := fun b m z => by
        obtain ⟨o, e⟩ := hS b m
        rw [e] at z; cases z
      have ex2 : Ext ρ H ρ' (mix H H' S0) := by
        refine ⟨ex.pre, fun b o e t n => ?_, fun b m => ?_, fun b z => ?_⟩
        · by_cases m : b ∈ S0
          · rw [mix_in m]; exact e
          · rw [mix_out m]; exact ex.keepN b o (by rw [mix_out m]; exact e) t n
        · rcases ex.new b m with z | z
          · exact .inl z
          · by_cases m0 : b ∈ S0
            · obtain ⟨u, hu⟩ := st'.there m
              rw [hn b m0] at hu; cases hu
            · rw [mix_out m0] at z; exact .inr z
        · by_cases m : b ∈ S0
          · rw [mix_in m] at z; exact (hA b m z).elim
          · rw [mix_out m] at z
            rcases ex.gone b z with y | y
            · exact .inl y
            · rw [mix_out m] at y; exact .inr y
      exact p ρ' (mix H H' S0) ex2 (st'.put hn hA) v (r'.mono (ext_put hn hA))
  refine PySem.W.kla_codeExpr (wpAny_mono ((hbody F a A outer s (mix noH H S0) rfl (hr.deeper _)).nox.run [] _ _ _ _ I ⟨ρ, fr, c, _, stm, enm, pm2⟩) (fun v s' z => ?_) fun e s' z => z)
  obtain ⟨w', H', J, rel, q⟩ := z
  exact ce_rem (Q' := fun v H' => (∀ b ∈ S0, H' b = none) → Q v (mix H H' S0)) ⟨w', H', J.os, J.bare, J.base, J.hok, rel, q⟩ e0.hok hS e0.frf fun v H' hn q => q hn
end MP
end
section
set_option maxRecDepth 100000
set_option maxHeartbeats 1000000
namespace MP
open PySem PySem.Spec PyProof.Rows L2
section
variable {q : Str} {body : PySem.Expr} {scope : Scope} {cl : List (Str × Addr)} {pm cv ctv : Value} {a b c : Str} {x1 x2 x3 : Option PySem.Expr} {p1 p2 p3 : Pos} {u v w : Value}
theorem bind1 : bindArgs (PySem.W.kla_fn "<lambda>" q ⟨[], [⟨a, x1, p1⟩], none, [], [], none, []⟩ body scope cl pm cv ctv) ⟨[u], []⟩ = pure [(a, u)] := by
  unfold bindArgs
  simp [List.lookup, seqItems?, List.filter]
  rfl
theorem bind2 (h : (b == a) = false) : bindArgs (PySem.W.kla_fn "<lambda>" q ⟨[], [⟨a, x1, p1⟩, ⟨b, x2, p2⟩], none, [], [], none, []⟩ body scope cl pm cv ctv) ⟨[u, v], []⟩ = pure [(a, u), (b, v)] := by
  unfold bindArgs
  simp [List.lookup, seqItems?, List.filter, h]
  rfl
theorem bind3 (h : (b == a) = false) (h2 : (c == a) = false) (h3 : (c == b) = false) : bindArgs (PySem.W.kla_fn "<lambda>" q ⟨[], [⟨a, x1, p1⟩, ⟨b, x2, p2⟩, ⟨c, x3, p3⟩], none, [], [], none, []⟩ body scope cl pm cv ctv) ⟨[u, v, w], []⟩ = pure [(a, u), (b, v), (c, w)] := by
  unfold bindArgs
  simp [List.lookup, seqItems?, List.filter, h, h2, h3]
  rfl
end
/-- up to three plain parameters -/
def parB : Arguments → Option (List Str)
  | ⟨[], [], none, [], [], none, []⟩ => some []
  | ⟨[], [⟨a, _, _⟩], none, [], [], none, []⟩ => some [a]
  | ⟨[], [⟨a, _, _⟩, ⟨b, _, _⟩], none, [], [], none, []⟩ => if (b == a) = false then some [a, b] else none
  | ⟨[], [⟨a, _, _⟩, ⟨b, _, _⟩, ⟨c, _, _⟩], none, [], [], none, []⟩ => if (b == a) = false ∧ (c == a) = false ∧ (c == b) = false then some [a, b, c] else none
  | _ => none
theorem parB_ok {params : Arguments} {ps : List Str} (h : parB params = some ps) : (∀ env, defaultsOf params env = ([], [])) ∧
    ∀ (q : Str) (body : PySem.Expr) (scope : Scope) (cl : List (Str × Addr)) (pm cv ctv : Value) (us : List Value), us.length = ps.length → bindArgs (PySem.W.kla_fn "<lambda>" q params body scope cl pm cv ctv) ⟨us, []⟩ = pure (ps.zip us) := by
  unfold parB at h
  split at h
  · cases h
    refine ⟨fun _ => rfl, fun q body scope cl pm cv ctv us hl => ?_⟩
    match us, hl with
    | [], _ => rfl
  · cases h
    refine ⟨fun _ => rfl, fun q body scope cl pm cv ctv us hl => ?_⟩
    match us, hl with
    | [u], _ => exact bind1
  · split at h
    · rename_i hz
      cases h
      refine ⟨fun _ => rfl, fun q body scope cl pm cv ctv us hl => ?_⟩
      match us, hl with
      | [u, v], _ => exact bind2 hz
    · cases h
  · split at h
    · rename_i hz
      cases h
      refine ⟨fun _ => rfl, fun q body scope cl pm cv ctv us hl => ?_⟩
      match us, hl with
      | [u, v, w], _ => exact bind3 hz.1 hz.2.1 hz.2.2
    · cases h
  · cases h
section
variable {T : Tab} {P : Prog} {call : Call} {W : WX} {X : Cx} {ρ : List Addr} {H : Hp} {pins : List (Addr × Obj)} {σ : L2.St} {s : Shared} {cs : List Cell} {fr c : List Cell} {γ : MP.Env}
/-- a table grows by a new code object, or does not -/
theorem tabs_grow {T0 : List (Addr × Str)} {P0 c' : Addr} {q : Str} {ps : Array Value} {pos : Pos} (hT : LamX.Tabs T0 H) (hu : ∀ p ∈ T0, p.1 = P0 → p.2 = q) (hP : H P0 = some (.tbl ps)) (hn : H c' = none) (ht : TriplesOk ps.toList)
    (ha : ∀ (pos : Pos) (cv : Value), codeAmong pos ps.toList = some cv → ∃ c, cv = .ref c ∧ H c = some (LamX.CodeO c q)) :
    LamX.Tabs T0 (L2.upd (L2.upd H P0 (.tbl (ps ++ #[rawInt pos.line, rawInt pos.col, .ref c']))) c' (LamX.CodeO c' q)) := by
  have old : ∀ b u, H b = some u → (∀ ps, u ≠ .tbl ps) → L2.upd (L2.upd H P0 (.tbl (ps ++ #[rawInt pos.line, rawInt pos.col, .ref c']))) c' (LamX.CodeO c' q) b = some u := fun b u e n => by
    rw [upd_ne (ne_of_none e hn), upd_ne fun z => n ps (Option.some.inj (e.symm.trans (by rw [z]; exact hP)))]
    exact e
  intro p hp
  by_cases hb : p.1 = P0
  · refine ⟨ps ++ #[rawInt pos.line, rawInt pos.col, .ref c'], by rw [hb, upd_ne (ne_of_none hP hn), upd_same], ?_, fun p' cv hcv => ?_⟩
    · simpa using PySem.TriplesOk_snoc _ _ _ _ ht
    · have hcv' : codeAmong p' (ps.toList ++ [rawInt pos.line, rawInt pos.col, .ref c']) = some cv := by simpa using hcv
      rw [hu p hp hb]
      rcases LamX.among_app _ ht hcv' with z | z
      · obtain ⟨c0, e1, e2⟩ := ha p' cv z
        exact ⟨c0, e1, old _ _ e2 fun ps => LamX.codeO_ne ps⟩
      · exact ⟨c', z, upd_same⟩
  · obtain ⟨qs, a1, a2, a3⟩ := hT p hp
    refine ⟨qs, by rw [upd_ne (ne_of_none a1 hn), upd_ne hb]; exact a1, a2, fun p' cv hcv => ?_⟩
    obtain ⟨c0, e1, e2⟩ := a3 p' cv hcv
    exact ⟨c0, e1, old _ _ e2 fun ps => LamX.codeO_ne ps⟩
theorem upd_none' {a b : Addr} {o : HO} (e : L2.upd H a o b = none) : H b = none := by
  by_cases h : b = a
  · rw [h, upd_same] at e; cases e
  · rw [upd_ne h] at e; exact e
/-- the store, its table grown -/
theorem StoreOk.grow {P0 c' : Addr} {q : Str} {ps : Array Value} {pos : Pos} (st : StoreOk T ρ H cs) (hu : ∀ p ∈ T.tb, p.1 = P0 → p.2 = q) (hm : (P0, q) ∈ T.tb) (hP : H P0 = some (.tbl ps)) (hn : H c' = none) :
    StoreOk T ρ (L2.upd (L2.upd H P0 (.tbl (ps ++ #[rawInt pos.line, rawInt pos.col, .ref c']))) c' (LamX.CodeO c' q)) cs ∧ Ext ρ H ρ (L2.upd (L2.upd H P0 (.tbl (ps ++ #[rawInt pos.line, rawInt pos.col, .ref c']))) c' (LamX.CodeO c' q)) := by
  have old : ∀ b u, H b = some u → (∀ ps, u ≠ .tbl ps) → L2.upd (L2.upd H P0 (.tbl (ps ++ #[rawInt pos.line, rawInt pos.col, .ref c']))) c' (LamX.CodeO c' q) b = some u := fun b u e n => by
    rw [upd_ne (ne_of_none e hn), upd_ne fun z => n ps (Option.some.inj (e.symm.trans (by rw [z]; exact hP)))]
    exact e
  have ex : Ext ρ H ρ (L2.upd (L2.upd H P0 (.tbl (ps ++ #[rawInt pos.line, rawInt pos.col, .ref c']))) c' (LamX.CodeO c' q)) :=
    ⟨⟨[], by simp⟩, fun b u e n _ => old b u e n, fun b m => .inl m, fun b z => .inr (upd_none' (upd_none' z))⟩
  obtain ⟨qs, h1, h2, h3⟩ := st.tb _ hm
  rw [hP] at h1; cases h1
  refine ⟨⟨st.len, st.nd, fun n k e => ?_, tabs_grow st.tb hu hP hn h2 h3, fun a ha => ⟨fun z => (st.hd a ha).1 (upd_none' (upd_none' z)), (st.hd a ha).2⟩, fun a ha φ z => ?_⟩, ex⟩
  · obtain ⟨a, g1, g2⟩ := st.at_ n k e
    refine ⟨a, g1, g2.keep ex ?_⟩
    cases g2 with
    | lst h _ => rw [h]; exact old _ _ h fun ps z => by cases z
    | ins h _ _ => rw [h]; exact old _ _ h fun ps z => by cases z
    | exn0 h _ => rw [h]; exact old _ _ h fun ps z => by unfold exo at z; cases z
    | exn h _ _ _ _ _ => rw [h]; exact old _ _ h fun ps z => by unfold exo at z; cases z
  · have n1 : a ≠ c' := fun q => (st.hd a ha).1 (q ▸ hn)
    rw [upd_ne n1] at z
    by_cases q : a = P0
    · rw [q, upd_same] at z; cases z
    · rw [upd_ne q] at z; exact st.hx a ha φ z
theorem lam_made {c0 P0 : Addr} {params : Arguments} {body : PySem.Expr} {scope : Scope} {lpos : Pos} {Q : Value → Shared → Prop} {E : Value → Shared → Prop} (I : Inv X pins σ H s) (st : StoreOk T ρ H cs) (TB : LamX.TabB X.base X.mg c0 P0) (hcode : X.env.code = .ref c0)
    (hm : (P0, X.env.qual ++ "<lambda>") ∈ T.tb) (hu : ∀ p ∈ T.tb, p.1 = P0 → p.2 = X.env.qual ++ "<lambda>") (hdef : defaultsOf params X.env = ([], [])) (hfree : ∀ y ∈ scope.names, y.2 = .free → ∃ c, X.env.cells.lookup y.1 = some c)
    (h : ∀ (f c' : Addr) (pm ctv : Value) (H1 : Hp) (s' : Shared), Inv X pins σ H1 s' → Ext ρ H ρ H1 → StoreOk T ρ H1 cs → H f = none → H1 f = some (KO (PySem.W.kla_obj "<lambda>" (X.env.qual ++ "<lambda>") params body scope (cloFrom X.env.cells scope.names []) pm c' ctv)) →
      H1 c' = some (LamX.CodeO c' (X.env.qual ++ "<lambda>")) → Q (.ref f) s') : wpAny (model X.prog X.w) X.A (eval (.Lambda params body scope lpos) X.env) Q E s := by
  obtain ⟨ps, hP, ht, ha⟩ := st.tb _ hm
  have bP := TB.bm.keeps I.bk
  have gP : s.heap.get? P0 = some { cls := .none, data := .fields ps } := I.hok P0 _ hP
  refine PySem.W.kla_eval hdef ?_
  cases hc : codeAmong lpos ps.toList with
  | some cv =>
    obtain ⟨c', rfl, hco⟩ := ha lpos cv hc
    refine PySem.W.kla_makeFunctionHit (mg := X.mg) (c := c0) (P := P0) (ps := ps) (closure_ok hfree) I.ok.glob (I.mod.glob.keeps I.bk) hcode (TB.code.keeps I.bk) gP ht hc bP fun ctv h' tk hx hsz => ?_
    have fresh : H h'.objs.size = none := I.hok.fresh hsz
    have J : Inv X pins σ H { s with heap := h', toks := tk } := I.kept fun b o e => hx b o e
    have J2 := J.laid (a := h'.objs.size) (t' := tk) (o := KO (PySem.W.kla_obj "<lambda>" (X.env.qual ++ "<lambda>") params body scope (cloFrom X.env.cells scope.names []) ((X.mg "__name__").getD .none) c' ctv))
      (h' := h'.push (PySem.W.kla_obj "<lambda>" (X.env.qual ++ "<lambda>") params body scope (cloFrom X.env.cells scope.names []) ((X.mg "__name__").getD .none) c' ctv)) (fun b u e => Heap.get?_push_of_some _ e) (Nat.le_refl _) ⟨Heap.get?_push_size _ rfl, _, Heap.get?_push_size _ rfl⟩
    exact h h'.objs.size c' _ _ _ _ J2 (Ext.upd fresh) (st.upd fresh) fresh upd_same (by rw [upd_ne (ne_of_none hco fresh)]; exact hco)
  | none =>
    refine PySem.W.kla_makeFunction (mg := X.mg) (c := c0) (P := P0) (ps := ps) (closure_ok hfree) I.ok.glob (I.mod.glob.keeps I.bk) hcode (TB.code.keeps I.bk) gP ht hc TB.gP bP fun c' ctv h' tk hx hge hlt hrec htb => ?_
    obtain ⟨c2, oc, vs, t, e2, hoc, hd, hv⟩ := hrec
    cases e2
    have nC : H c' = none := I.hok.fresh hge
    have J := LamX.inv_table (t' := tk) (more := #[rawInt lpos.line, rawInt lpos.col, .ref c']) (h' := h') I hP (fun b o hb e => hx b o hb e) htb hge ⟨oc, vs, t, hoc, hd, hv⟩
    obtain ⟨st1, ex1⟩ := st.grow (pos := lpos) hu hm hP nC
    have fresh := J.hok.fresh (Nat.le_refl h'.objs.size)
    have J2 := J.laid (a := h'.objs.size) (t' := tk) (o := KO (PySem.W.kla_obj "<lambda>" (X.env.qual ++ "<lambda>") params body scope (cloFrom X.env.cells scope.names []) ((X.mg "__name__").getD .none) c' ctv))
      (h' := h'.push (PySem.W.kla_obj "<lambda>" (X.env.qual ++ "<lambda>") params body scope (cloFrom X.env.cells scope.names []) ((X.mg "__name__").getD .none) c' ctv)) (fun b u e => Heap.get?_push_of_some _ e) (Nat.le_refl _) ⟨Heap.get?_push_size _ rfl, _, Heap.get?_push_size _ rfl⟩
    exact h h'.objs.size c' _ _ _ _ J2 (ex1.trans (Ext.upd fresh)) (st1.upd fresh) (I.hok.fresh (Nat.le_trans hge (Nat.le_of_lt hlt))) upd_same (by rw [upd_ne (Nat.ne_of_lt hlt)]; exact upd_same)
theorem caps_at {fv : List Str} (I : Inv X pins σ H s) (en : EnvOk T ρ H σ γ) (hk : ∀ y ∈ fv, X.env.scope.names.lookup y = some .cell) : ∀ {fv' : List Str} {is : List Nat} {ds : List D}, (∀ y ∈ fv', y ∈ fv) → is.map (fun i => X.N[i]?) = fv'.map some → slotsOf γ is = some ds →
    ∃ wv : List V, RepL T ρ H wv ds ∧ wv.length = fv'.length ∧ ∀ (i : Nat) y, fv'[i]? = some y → ∃ c u v, X.env.cells.lookup y = some c ∧ wv[i]? = some v ∧ s.heap.IsCell c (some u) ∧ RelV v u
  | [], [], ds, _, _, h => by
    unfold slotsOf at h; cases h
    exact ⟨[], .nil, rfl, fun i y e => by simp at e⟩
  | [], _ :: _, _, _, e, _ => by simp at e
  | _ :: _, [], _, _, e, _ => by simp at e
  | y :: fv', i :: is, ds, hs, e, h => by
    rw [List.map_cons, List.map_cons] at e
    have e1 : X.N[i]? = some y := (List.cons.inj e).1
    have e2 := (List.cons.inj e).2
    unfold slotsOf at h
    cases hg : γ[i]? with
    | none => rw [hg] at h; cases h
    | some od =>
      rw [hg] at h
      cases od with
      | none => cases h
      | some d =>
        cases hr : slotsOf γ is with
        | none => rw [hr] at h; cases h
        | some ds' =>
          rw [hr] at h
          have h1 : (if isLam d then none else some (d :: ds')) = some ds := h
          cases hz : isLam d with
          | true => rw [hz] at h1; cases h1
          | false =>
            rw [hz] at h1; cases h1
            obtain ⟨wv, r, l, q⟩ := caps_at I en hk (fun y m => hs y (List.mem_cons_of_mem _ m)) e2 hr
            obtain ⟨v, g1, g2⟩ := en.at_ i d hg
            obtain ⟨m, hn, hl⟩ := I.loc
            have kc := hk y (hs y List.mem_cons_self)
            obtain ⟨u, ru, lk⟩ := hl i y v e1 g1 (.inr (.inl kc))
            rcases lk with ⟨z, _⟩ | ⟨_, c1, hc1, hcell⟩
            · rw [show X.env.scope.names.lookup y = some .local from z] at kc; cases kc
            · refine ⟨v :: wv, .cons (g2.data hz) r, by simp [l], fun j y' ej => ?_⟩
              cases j with
              | zero =>
                have : y = y' := by simpa using ej
                subst this
                exact ⟨c1, u, v, hc1, rfl, hcell, ru⟩
              | succ j =>
                obtain ⟨c2, u2, v2, k1, k2, k3, k4⟩ := q j y' (by simpa using ej)
                exact ⟨c2, u2, v2, k1, by simpa using k2, k3, k4⟩
inductive SL (T : Tab) (P : Prog) (call : Call) (W : WX) (X : Cx) : List PySem.Expr → Es → Prop where
  | nil : SL T P call W X [] .nil
  | cons {e : PySem.Expr} {x : E} {es : List PySem.Expr} {xs : Es} (h : PE X e (tE T W (ev P call x))) (hn : ∀ y p, e ≠ .Starred y p) (r : SL T P call W X es xs) : SL T P call W X (e :: es) (.cons x xs)
theorem SL.args {pos : Pos} {lam : PySem.Expr} {Qf : List Value → Shared → Prop} (hl : ∀ y p, lam ≠ .Starred y p) {as : List PySem.Expr} {ys : Es} (h : SL T P call W X as ys) : ∀ {s : Shared} {H : Hp} {Kq : List V → Hp → Prop} {Qf : List Value → Shared → Prop}, Inv X pins σ H s → tA T W (evs P call ys) σ H Kq →
    (∀ (vs : List V) (us : List Value) (H1 : Hp) (s1 : Shared), Inv X pins σ H1 s1 → Vals vs us → Kq vs H1 → wpAny (model X.prog X.w) X.A (eval lam X.env) (fun u s2 => Qf (us ++ [u]) s2) X.xe s1) →
    wpAny (model X.prog X.w) X.A (spliced (backTo pos (starEach (as ++ [lam]) X.env))) Qf X.xe s := by
  induction h with
  | nil =>
    intro s H Kq Qf I q k
    obtain ⟨ρ, fr, c, γ, st, en, p⟩ := q
    unfold evs at p
    have q0 : Kq [] H := p ρ H (Ext.refl _ _) st [] .nil
    rw [List.nil_append, starEach_cons lam [] X.env hl]
    show wpAny _ _ (spliced ((false, eval lam X.env) :: backTo pos (starEach [] X.env))) _ _ s
    exact Calls.spliced_cons (wpAny_mono (k [] [] H s I .nil q0) (fun u s2 z => Calls.spliced_nil z) fun _ _ z => z)
  | cons ha hn r ih =>
    rename_i e x es xs
    intro s H Kq Qf I q k
    rw [List.cons_append, starEach_cons e (es ++ [lam]) X.env hn]
    show wpAny _ _ (spliced ((false, eval e X.env) :: backTo pos (starEach (es ++ [lam]) X.env))) _ _ s
    obtain ⟨ρ, fr, c, γ, st, en, p⟩ := q
    unfold evs at p
    refine Calls.spliced_cons (thn (ha.run pins s σ H _ I (tE_step ⟨st, en, p⟩)) fun u s1 z => ?_)
    obtain ⟨v, H1, I1, ru, ρ1, c1, d, e1, r1, g1⟩ := z
    refine ih (Kq := fun vs H2 => Kq (v :: vs) H2) I1 (tA_mono (tA_step g1) fun vs H2 ⟨ρ2, c2, ds, e2, r2, g2⟩ => g2.p ρ2 H2 (Ext.refl _ _) g2.st _ (.cons (r1.mono e2) r2)) fun vs us H2 s2 I2 rv kq => ?_
    exact k (v :: vs) (u :: us) H2 s2 I2 (.cons ru rv) kq
/-- f(e, .., lambda ..: ..) -/
theorem SE_calll {n f : Str} {p pos lpos : Pos} {as : List PySem.Expr} {ys : Es} {params : Arguments} {body : PySem.Expr} {scope : Scope} {x : E} {sz : Nat} {lps fv N : List Str} {is : List Nat} {k : Nat} {fa c0 P0 : Addr} {fd : FuncData} {ps : List Str} (F : FnG X T call k f fa fd ps) (hr : RoomG k X.A) (hg : Gl X n) (hm : X.mg n = some (.ref fa)) (hdb : (n == ("__debug__" : Str)) = false)
    (hs : SL T P call W X as ys) (ns : noStar as = true) (TB : LamX.TabB X.base X.mg c0 P0) (hcode : X.env.code = .ref c0) (hmt : (P0, X.env.qual ++ "<lambda>") ∈ T.tb) (hu : ∀ p ∈ T.tb, p.1 = P0 → p.2 = X.env.qual ++ "<lambda>")
    (hpar : parB params = some lps) (S : NdefX.NScope N lps fv scope) (hlp : T.lp params body scope lps fv x sz) (hfv : ∀ y ∈ fv, X.env.scope.names.lookup y = some .cell ∧ X.fn y = true) (his : is.map (fun i => X.N[i]?) = fv.map some) :
    PE X (.Call (.Name n p) (as ++ [.Lambda params body scope lpos]) [] pos) (tE T W (ev P call (.calll f ys x sz lps.length is))) := by
  have hl : ∀ y q, (PySem.Expr.Lambda params body scope lpos) ≠ .Starred y q := fun y q z => nomatch z
  refine ⟨fun pins s σ H Q I h => ?_⟩
  obtain ⟨ρ, fr, c, γ, st, en, pp⟩ := h
  unfold ev at pp
  refine wpAny_Call_Name_kw (ld_glob I hg hm ?_ hdb)
  have kin : ∀ y ∈ scope.names, y.2 = .free → ∃ c, X.env.cells.lookup y.1 = some c := fun y hy e => I.ok.has _ (.inl (hfv _ (S.free y hy e)).1)
  have key : wpAny (model X.prog X.w) X.A (spliced (backTo pos (starEach (as ++ [.Lambda params body scope lpos]) X.env))) (fun vs s₁ => X.K.In s₁.heap ∧ wpAny (model X.prog X.w) X.A (PySem.call (.ref fa) ([] ++ vs)) (EP X pins σ Q) X.xe s₁) X.xe s := by
    refine SL.args (Qf := fun vs s₁ => X.K.In s₁.heap ∧ wpAny (model X.prog X.w) X.A (PySem.call (.ref fa) ([] ++ vs)) (EP X pins σ Q) X.xe s₁) hl hs I (tA_step ⟨st, en, pp⟩) fun vs us H1 s1 I1 rv kq => ?_
    obtain ⟨ρ1, c1, ds, e1, r1, g1⟩ := kq
    cases hcs : slotsOf γ is with
    | none => rw [hcs] at g1; exact g1.bad.elim
    | some cs =>
      rw [hcs] at g1
      have g2 : Got T W σ fr γ (RQ T Q) ρ1 H1 c1 (noExc (call f (ds ++ [.lam x sz lps.length cs]) fr.length c1)) := g1
      refine lam_made I1 g2.st TB hcode hmt hu ((parB_ok hpar).1 _) kin fun g c' pm ctv H2 s2 I2 e2 st2 hg1 hf hc' => ?_
      have en2 := g2.en.mono e2
      obtain ⟨wv, rw_, wl, caps⟩ := caps_at I2 en2 (fun y m => (hfv y m).1) (fun y m => m) his hcs
      let cl := cloFrom X.env.cells scope.names []
      have clm : ∀ y c, cl.lookup y = some c → X.env.cells.lookup y = some c := fun y c e => NdefX.clo_cm kin e
      have clin : ∀ y c, cl.lookup y = some c → y ∈ fv := fun y c e => by
        rcases cloFrom_mem (PySem.mem_of_lookup e) with z | ⟨z, _⟩
        · cases z
        · exact S.free _ z rfl
      have clhas : ∀ y ∈ fv, ∀ c, X.env.cells.lookup y = some c → cl.lookup y = some c := fun y m c e => NdefX.clo_has kin (PySem.mem_of_lookup (S.frk y m)) e
      let S0 : List Addr := fv.filterMap fun y => cl.lookup y
      let A1 : Hp := fun b => (s2.heap.get? b).map KO
      have mem0 : ∀ b ∈ S0, ∃ y ∈ fv, X.env.cells.lookup y = some b := fun b m => by
        obtain ⟨y, m1, m2⟩ := List.mem_filterMap.mp m
        exact ⟨y, m1, clm y b m2⟩
      have hn : ∀ b ∈ S0, H2 b = none := fun b m => by
        obtain ⟨y, _, h2⟩ := mem0 b m
        exact I2.freeC y b h2
      have cell : ∀ b ∈ S0, ∃ o v, s2.heap.get? b = some o ∧ o.data = .cell v := fun b m => by
        obtain ⟨y, _, h2⟩ := mem0 b m
        obtain ⟨v, o, ho, hd⟩ := I2.cell y b h2
        exact ⟨o, v, ho, hd⟩
      have hS : ∀ b ∈ S0, ∃ o, A1 b = some (KO o) ∧ s2.heap.get? b = some o := fun b m => by
        obtain ⟨o, v, ho, _⟩ := cell b m
        exact ⟨o, by show (s2.heap.get? b).map KO = _; rw [ho]; rfl, ho⟩
      have hA : ∀ b ∈ S0, A1 b ≠ none := fun b m z => by
        obtain ⟨o, e, _⟩ := hS b m
        rw [e] at z; cases z
      have high : ∀ b ∈ S0, X.s_0.heap.objs.size ≤ b := fun b m => by
        obtain ⟨y, h1, h2⟩ := mem0 b m
        exact I2.ok.cab y b (hfv y h1).2 h2
      have hb : ∀ b ∈ S0, X.base.get? b = none := fun b m => by
        cases q : X.base.get? b with
        | none => rfl
        | some o => exact absurd (Nat.lt_of_lt_of_le (Heap.lt_size (I2.ok.bs b o q).1) (high b m)) (Nat.lt_irrefl _)
      have hfr : ∀ b ∈ S0, b ∉ frs X.stack := fun b m z => by
        rcases List.mem_cons.mp (I2.stkSub b z) with e | e
        · obtain ⟨o, v, ho, hd⟩ := cell b m
          obtain ⟨m', ⟨o', es, ep, ho', hd'⟩, _⟩ := I2.loc
          rw [← e, ho] at ho'; cases ho'
          rw [hd] at hd'
          exact absurd hd'.1 (by simp)
        · obtain ⟨_, o, ho, _⟩ := I2.ok.funs.mem e
          exact absurd (Nat.lt_of_lt_of_le (Heap.lt_size ho) (high b m)) (Nat.lt_irrefl _)
      have ef := env0_put I2.env0 hS hn hb hfr
      have ex : Ext ρ1 H2 ρ1 (mix A1 H2 S0) := ext_put hn hA
      have notK : ∀ a o, H2 a = some (KO o) → a ∉ ρ1 := fun a o z m => by
        obtain ⟨n, k, h1, h2, h3⟩ := st2.mem m
        unfold KO at z
        cases h3 with
        | lst h _ => rw [h] at z; cases z
        | ins h _ _ => rw [h] at z; cases z
        | exn0 h _ => rw [h] at z; unfold exo at z; cases z
        | exn h _ _ _ _ _ => rw [h] at z; unfold exo at z; cases z
      have notC : c' ∉ ρ1 := fun m => by
        obtain ⟨n, k, h1, h2, h3⟩ := st2.mem m
        obtain ⟨⟨oc, vs', t, g1, g2', g3⟩, _⟩ := (show ObjOk X.prog X.w H2 s2.heap c' (LamX.CodeO c' _) from I2.hok c' _ hc')
        have no : ∀ (C : Addr) (d : Option Addr), H2 c' ≠ some (exo c' C d) := fun C d h => by
          obtain ⟨⟨t1, g4⟩, _⟩ := (show ObjOk X.prog X.w H2 s2.heap c' (exo c' C d) from I2.hok c' _ h)
          rw [g1] at g4
          cases g4
          cases g2'
          simp at g3
        cases h3 with
        | lst h _ => rw [h] at hc'; unfold LamX.CodeO at hc'; cases hc'
        | ins h _ _ => rw [h] at hc'; unfold LamX.CodeO at hc'; cases hc'
        | exn0 h _ => exact no _ _ h
        | exn h _ _ _ _ _ => exact no _ _ h
      have at_ : ∀ a u, H2 a = some u → mix A1 H2 S0 a = some u := fun a u e => by rw [mix_out fun m => by rw [hn a m] at e; cases e]; exact e
      have outS : ∀ b ∈ S0, Out T ρ1 b := fun b m => by
        refine ⟨fun z => ?_, fun z => (st2.hd b z).1 (hn b m)⟩
        obtain ⟨u, hu⟩ := st2.there z
        rw [hn b m] at hu
        cases hu
      have la : LamAt T ρ1 (mix A1 H2 S0) g x sz lps.length cs := by
        refine ⟨params, body, scope, lps, fv, X.env.qual ++ "<lambda>", cl, c', pm, ctv, hlp, rfl, at_ _ _ hf, ⟨notK g _ hf, fun z => (g2.st.hd g z).1 hg1⟩, at_ _ _ hc', ⟨notC, fun z => st2.hx c' z _ hc'⟩,
          fun y z b h1 h2 => I2.ok.inj y z b (clm y b h1) (clm z b h2), clin, wv, rw_.mono ex, wl, fun i y e => ?_⟩
        obtain ⟨b, u, v, k1, k2, ⟨o, k3, k5⟩, k4⟩ := caps i y e
        have m : b ∈ S0 := List.mem_filterMap.mpr ⟨y, List.mem_of_getElem? e, clhas y (List.mem_of_getElem? e) b k1⟩
        obtain ⟨o', e1, e2⟩ := hS b m
        rw [k3] at e2; cases e2
        exact ⟨b, o, u, v, clhas y (List.mem_of_getElem? e) b k1, k2, by rw [mix_in m]; exact e1, outS b m, k5, k4⟩
      have p3 : Post T fr (RQ T fun v H' => (∀ b ∈ S0, H' b = A1 b) → Q v (mix noH H' S0)) NoW ρ1 (mix A1 H2 S0) (noExc (call f (ds ++ [.lam x sz lps.length cs]) fr.length c1)) := by
        have p0 := (g2.p.later e2).noW
        cases hres : call f (ds ++ [.lam x sz lps.length cs]) fr.length c1 with
        | bad => rw [hres] at p0; exact p0.elim
        | exc _ _ _ => rw [hres] at p0; exact p0.elim
        | ok d c3 =>
          rw [hres] at p0
          intro ρ' H' ex3 st3 v r3 hk
          have hS3 : ∀ b ∈ S0, ∃ o, H' b = some (KO o) := fun b m => by
            obtain ⟨o, e, _⟩ := hS b m
            exact ⟨o, (hk b m).trans e⟩
          have ho3 : ∀ b ∈ S0, b ∉ T.hid := fun b m z => (st2.hd b z).1 (hn b m)
          have ex4 : Ext ρ1 H2 ρ' (mix noH H' S0) := by
            refine ⟨ex3.pre, fun b o e t n => ?_, fun b m => ?_, fun b z => ?_⟩
            · have m : b ∉ S0 := fun m => by rw [hn b m] at e; cases e
              rw [mix_out m]; exact ex3.keepN b o (at_ b o e) t n
            · rcases ex3.new b m with z | z
              · exact .inl z
              · by_cases m0 : b ∈ S0
                · rw [mix_in m0] at z; exact (hA b m0 z).elim
                · rw [mix_out m0] at z; exact .inr z
            · by_cases m : b ∈ S0
              · exact .inr (hn b m)
              · rw [mix_out m] at z
                rcases ex3.gone b z with y | y
                · exact .inl y
                · rw [mix_out m] at y; exact .inr y
          exact p0 ρ' (mix noH H' S0) ex4 (st3.rem hS3 ho3) v (r3.rem hS3)
      have all : Vals (vs ++ [V.ref g]) (us ++ [Value.ref g]) := rv.append (.cons rfl .nil)
      have sp : spF T call f (vs ++ [V.ref g]) (mix A1 H2 S0) (fun v H' => (∀ b ∈ S0, H' b = A1 b) → Q v (mix noH H' S0)) E0 :=
        ⟨ρ1, fr, c1, ds ++ [.lam x sz lps.length cs], st2.put hn hA, ((r1.mono e2).mono ex).A.append (.cons (.inr ⟨g, x, sz, lps.length, cs, rfl, rfl, la⟩) .nil), p3⟩
      have len : (us ++ [Value.ref g] ++ ([] : List Value)).length = ps.length := by
        rw [List.append_nil, ← all.length]; exact F.ok.len _ _ _ _ sp
      have go := F.ok.run X.A X.stack s2 (mix A1 H2 S0) ⟨us ++ [.ref g], []⟩ (us ++ [.ref g] ++ []) (vs ++ [.ref g]) _ E0 hr ef (F.bd s2 (us ++ [.ref g]) I2.kIn len) (by rw [List.append_nil]; exact all) sp
      refine ⟨I2.kIn, wpAny_call (codeAny_mono go fun res t z => ?_)⟩
      rcases res with er | fl
      · exact z.elim
      · cases fl with
        | ret u => exact I2.after (ce_put z hS hn fun v H' hk q => q hk)
        | next => exact z.elim
        | brk => exact z.elim
        | cont => exact z.elim
  have nsl : noStar (as ++ [PySem.Expr.Lambda params body scope lpos]) = true := by
    clear key hs
    induction as with
    | nil => rfl
    | cons e es ih =>
      obtain ⟨n1, n2⟩ := noStar_cons ns
      rw [List.cons_append]
      cases e <;> first | exact ih n2 | exact absurd rfl (n1 _ _)
  cases hq : as ++ [PySem.Expr.Lambda params body scope lpos] with
  | nil => simp at hq
  | cons e es =>
    rw [hq] at key nsl
    exact PySem.W.callWith_K (h₀ := X.base) I.ok.mod.kin F.kp key (starEach_cons e es X.env (noStar_cons nsl).1) (noStar_any pos X.env (noStar_cons nsl).2)
end
end MP
end
section
set_option maxRecDepth 100000
set_option maxHeartbeats 1000000
namespace MP
open PySem PySem.Spec PyProof.Rows L2
/-- the tuple at a, each item in a new pair with its place -/
def IteT (K : PySem.W.Frag) (a : Addr) : L2.It where
  go := fun i H => ∃ (xs : List V) (x : V), SqT K H a xs ∧ xs[i]? = some x
  yld := fun i H v H' => ∃ p x, v = .ref p ∧ H p = none ∧ H' = upd H p (.tup [.int (i : Nat), x]) ∧ ∀ xs, SqT K H a xs → xs[i]? = some x
  stop := fun i H => ∃ xs : List V, SqT K H a xs ∧ xs.length ≤ i
/-- where such a walk is -/
def AtT (a e it : Addr) (i : Nat) (h : Heap) : Prop := (∃ old, IsEnum h e it ((i : Nat) : Int) old) ∧ h.IsTupleIter it a i ∧ e ≠ it ∧ a ≠ it ∧ e ≠ a
theorem turn_enumT {P : Program} {w : World} {K : PySem.W.Frag} {elts : List Expr} {kk : Nat} {tpos : Pos} (a e it : Addr) : Turn P w K (.Tuple elts kk tpos) (IteT K a) [e, it] e (AtT a e it) where
  mem := List.mem_cons_self
  obj := fun i h st b hb => by
    obtain ⟨⟨old, he⟩, hit, _, _, _⟩ := st
    obtain ⟨o, ho, hrest⟩ := hit
    rcases List.mem_cons.mp hb with z | z
    · exact ⟨_, by rw [z]; exact he, fun v q => by cases q⟩
    · rw [List.mem_singleton.mp z]
      exact ⟨o, ho, fun v q => by rw [hrest.2] at q; cases q⟩
  keep := fun i h h' st k => by
    obtain ⟨⟨old, he⟩, hit, n1, n2, n3⟩ := st
    exact ⟨⟨old, k e List.mem_cons_self _ he⟩, hit.at fun o q => k it (by simp) o q, n1, n2, n3⟩
  item := by
    intro X hP hw hK hc i pins s σ H E I hf st hg
    subst hP hw hK
    obtain ⟨⟨old, he⟩, hit, n1, n2, n3⟩ := st
    obtain ⟨xs, x, hq, hx⟩ := hg
    obtain ⟨its, rv, pt, hz⟩ := I.tuple hq
    obtain ⟨u, hu, ru⟩ := rv.get hx
    have hel := Heap.lt_size he
    have hil : it < s.heap.objs.size := by
      obtain ⟨_, q, _⟩ := hit
      exact Heap.lt_size q
    have hcm : X.A.in1.handled = none := I.ok.hd hc
    have hlt : i < its.toArray.size := by
      have := (List.getElem?_eq_some_iff.mp hu).1
      simpa using this
    refine wpAny_pyNext_enum_itemC (Draws.tuple hcm it a n2 its.toArray) he ⟨hit, pt⟩ hlt n1 (by simp [n1, n3]) fun y h1 tk hy ho hst hT hsz hk => ?_
    have ey : y = u := by
      have hy' : its[i]? = some y := by simpa using hy
      rw [hu] at hy'
      exact (Option.some.inj hy').symm
    subst ey
    refine ⟨_, rfl, wpAny_letOwnedTupleGo_enum (s := { s with heap := h1, toks := tk + 1 }) ho fun h2 he2 sb => ?_⟩
    have hT2 := (sb.2 _ (Nat.ne_of_gt hel)).trans hT
    have fresh : H s.heap.objs.size = none := I.hok.fresh (Nat.le_refl _)
    have nobj : ObjOk X.prog X.w (upd H s.heap.objs.size (.tup [.int (i : Nat), x])) h2 s.heap.objs.size (.tup [.int (i : Nat), x]) :=
      ⟨by show 2 ≤ sizeLine; decide, _, .cons ⟨_, rfl⟩ (.cons ru .nil), ⟨_, hT2, rfl, _, rfl⟩⟩
    have kp : ∀ b ob, b ∉ [e, it] → s.heap.get? b = some ob → h2.get? b = some ob := fun b ob hb q => by
      have b1 : b ≠ e := fun z => hb (by simp [z])
      have b2 : b ≠ it := fun z => hb (by simp [z])
      exact (sb.2 b b1).trans (hk b ob b1 b2 q)
    have I1 := I.turnedNew (t' := tk + 1) (ch := [e, it]) kp hf (Nat.le_refl _) nobj
    refine ⟨.ref s.heap.objs.size, _, I1, rfl, ⟨_, x, rfl, fresh, rfl, fun ys hy => ?_⟩, ⟨⟨y, ?_⟩, ?_, n1, n2, n3⟩, fun b hb => ?_⟩
    · rw [I.tuple_inj hy hq]; exact hx
    · have e1 : ((i + 1 : Nat) : Int) = (i : Int) + 1 := by omega
      rw [e1]; exact he2
    · exact hst.1.at fun o q => (sb.2 it (Ne.symm n1)).trans q
    · have hb' : b < s.heap.objs.size := by
        rcases List.mem_cons.mp hb with z | z
        · rw [z]; exact hel
        · rw [List.mem_singleton.mp z]; exact hil
      rw [upd_ne (Nat.ne_of_lt hb')]
      exact (hf b hb).1
  done := by
    intro X hP hw hK hc i pins s σ H E I hf st hg
    subst hP hw hK
    obtain ⟨⟨old, he⟩, hit, n1, n2, n3⟩ := st
    obtain ⟨xs, hq, hx⟩ := hg
    obtain ⟨its, rv, pt, hz⟩ := I.tuple hq
    obtain ⟨f0, f1, f2, f3, f4, f5⟩ := hf it (by simp)
    have hcm : X.A.in1.handled = none := I.ok.hd hc
    have hno : its.toArray[i]? = none := by
      have hl := rv.length
      simp; omega
    have Dr : Draws X.prog X.w X.A.in1 it [it, a] i (fun _ _ => False) (fun j h => j = i ∧ h.IsTupleIter it a i ∧ h.IsTuple a its.toArray) := {
      live := fun j h st => by
        obtain ⟨o, ho, _⟩ := st.2.1
        exact ⟨o, ho⟩
      frame := fun j h h' st kk => ⟨st.1, st.2.1.at fun o q => kk it (by simp) o q, st.2.2.at fun o q => kk a (by simp) o q⟩
      item := fun j s Q E hj st _ => absurd hj (by rw [st.1]; exact Nat.lt_irrefl _)
      done := fun s Q E st hE => wpAny_nextOf_tuple_end hcm st.2.1 st.2.2 hno hE }
    refine wpAny_pyNext_enum_endD Dr he ⟨rfl, hit, pt⟩ fun h' eb => ?_
    exact ⟨rfl, I.turned (t' := s.toks) (fun b o hb q => eb b o hb q) f0 f1 f3 f4 f5⟩
  self := fun A i s Q E st h => by
    obtain ⟨⟨_, he⟩, _⟩ := st
    exact wpAny_pyIter_enum he h
abbrev tupIt (a : Addr) : Obj := { cls := .type "tuple_iterator", data := .fields #[.ref a, .int 0 0] }
abbrev enmOf (j : Addr) : Obj := { cls := .type "enumerate", data := .fields #[.none, .bool false, .ref j, rawInt 0, .none, .none] }
open AutoSeq1 (wpAny_loadPart') in
theorem meets_newT (a : Addr) (its : Array Value) (n : Nat) (dd : Option Addr) (sl : Array (Option Value)) :
    Meets (Builtin.«enumerate.__new__» ⟨[.type "enumerate", .ref a], []⟩) (fun _ R s => s.heap.get? a = some ⟨.type "tuple", dd, .seq its n, sl⟩ ∧
      R (.ok (.ret (.ref (s.heap.push (tupIt a)).objs.size))) { s with heap := (s.heap.push (tupIt a)).push (enmOf s.heap.objs.size) }) :=
  .of_wp fun prog w A R s h => by
    obtain ⟨hp, gn, dr, tk, os⟩ := s
    obtain ⟨hl, h⟩ := h
    have hs1 := sub_enumerate
    have hT : Heap.IsTuple (Shared.heap ⟨hp, gn, dr, tk, os⟩) a its := ⟨_, hl, rfl, n, rfl⟩
    wp_walk using wpAny_loadPart' hl
    refine wpAny_stack_any fun stk => wpAny_pure ?_
    split
    · rename_i c _ _ _ _ _
      cases (c == Value.type "enumerate") with
      | false =>
        wp_walk using wpAny_loadPart' hl, wpAny_pyIter_tuple hT
        exact ⟨_, rfl, h⟩
      | true =>
        wp_walk using wpAny_loadPart' hl, wpAny_pyIter_tuple hT
        exact ⟨_, rfl, h⟩
    · wp_walk using wpAny_loadPart' hl, wpAny_pyIter_tuple hT
      exact ⟨_, rfl, h⟩
theorem call_enumT {prog : Program} {w : World} {A : Around} {E : Value → Shared → Prop} {s : Shared} {a : Addr} {its : Array Value} {Q : Value → Shared → Prop} (hT : s.heap.IsTuple a its)
    (h : ∀ h2, IsEnum h2 (s.heap.objs.size + 1) s.heap.objs.size 0 .none → h2.IsTupleIter s.heap.objs.size a 0 → (∀ b o, s.heap.get? b = some o → h2.get? b = some o) → Q (.ref (s.heap.objs.size + 1)) { s with heap := h2 }) :
    wpAny (model prog w) A (call (.type "enumerate") [.ref a]) Q E s := by
  obtain ⟨⟨c, dd, dt, sl⟩, hl, hc, n, hd⟩ := hT
  obtain rfl : c = .type "tuple" := hc
  obtain rfl : dt = .seq its n := hd
  have sz : (s.heap.push (tupIt a)).objs.size = s.heap.objs.size + 1 := Heap.size_push ..
  have en : IsEnum ((s.heap.push (tupIt a)).push (enmOf s.heap.objs.size)) (s.heap.objs.size + 1) s.heap.objs.size 0 .none := by
    have q := Heap.get?_push_size (s.heap.push (tupIt a)) (o := enmOf s.heap.objs.size) rfl
    rw [sz] at q
    exact q
  refine callType_new F.called_enumerate (by decide) (F.typeCall_enumerate_1 _) (F.newCall_enumerate_1 _) (fun o => F.args_object_init_2 o _) F.entry_enumerate_new (meets_newT a its n dd sl) ⟨hl, ?_⟩
  show _ ∧ _
  rw [sz]
  exact ⟨⟨_, en, rfl⟩, h _ en ⟨_, Heap.get?_push_of_some _ (Heap.get?_push_size _ rfl), rfl, rfl⟩ fun b o x => Heap.get?_push_of_some _ (Heap.get?_push_of_some _ x)⟩
def iEnumT (K : PySem.W.Frag) (ta : TA) : TI := fun σ H R => ta σ H fun vs H1 => ∃ a xs, vs = [.ref a] ∧ SqT K H1 a xs ∧ R (IteT K a) H1
theorem pi_enumT {X : Cx} {e : Expr} {ta : TA} {p pos tpos : Pos} {elts : List Expr} {kk : Nat} (hg : Gl X "enumerate") (hm : X.mg "enumerate" = none) (ha : PA X [e] ta) (hs : starEach [e] X.env = [(false, eval e X.env)]) :
    PI X (.Tuple elts kk tpos) (.Call (.Name "enumerate" p) [e] [] pos) (iEnumT X.K ta) := by
  refine ⟨fun pins s σ H R I h => ?_⟩
  have first := ha.run pos pins s σ H _ I h
  refine Call_ (ld_blt I hg hm boot_enumerate (PyProof.Rows.callWith_type1 (thn first fun us s1 ⟨vs, H1, I1, r1, a, xs, ex, hq, q⟩ => ?_) hs rfl))
  subst ex
  cases r1 with
  | cons r rr =>
    cases rr
    cases r
    obtain ⟨its, rv, pt, hz⟩ := I1.tuple hq
    refine call_enumT pt fun h2 he hit hk => wpAny_pyIter_enum he ?_
    have I2 : Inv X pins σ H1 { s1 with heap := h2 } := I1.kept (t' := s1.toks) hk
    have al : a < s1.heap.objs.size := by
      obtain ⟨o, ho, _⟩ := pt
      exact Heap.lt_size ho
    refine ⟨s1.heap.objs.size + 1, [s1.heap.objs.size + 1, s1.heap.objs.size], _, _, H1, rfl, I2, turn_enumT a (s1.heap.objs.size + 1) s1.heap.objs.size, ⟨⟨.none, he⟩, hit, Nat.succ_ne_self _, Nat.ne_of_lt al, Nat.ne_of_gt (Nat.lt_succ_of_lt al)⟩, fun b hb => ?_, q⟩
    have hle : s1.heap.objs.size ≤ b := by
      rcases List.mem_cons.mp hb with z | z
      · rw [z]; exact Nat.le_succ _
      · rw [List.mem_singleton.mp z]; exact Nat.le_refl _
    exact I1.fpOk hle (I1.hok.fresh hle)
/-- its place in the data -/
theorem iteT_ok {T : Tab} {ρ : List Addr} {H : Hp} {a : Addr} {vs : List V} {xs : List D} (r : RepL T ρ H vs xs) (hs : Good1 T ρ H fun H' => SqT T.K H' a vs) : ItOk T RepW (IteT T.K a) ρ H (enumD 0 xs) where
  go := fun h ρ' H' i x hh e hx => by
    have hl := (List.getElem?_eq_some_iff.mp hx).1
    rw [enumD_len] at hl
    obtain ⟨v, hv, _⟩ := r.get (List.getElem?_eq_getElem hl)
    exact ⟨vs, v, hs _ _ _ hh e, hv⟩
  yld := fun h ρ' H' i x v H'' hh e hx y => by
    obtain ⟨p, w, rfl, hp, rfl, hv⟩ := y
    have hl := (List.getElem?_eq_some_iff.mp hx).1
    rw [enumD_len] at hl
    have hg := List.getElem?_eq_getElem hl
    rw [enumD_get hg] at hx
    cases hx
    refine ⟨.inr ⟨p, _, hp, rfl⟩, .inr ⟨p, _, _, rfl, rfl, .inl (.inl upd_same), .cons ?_ (.cons ?_ .nil)⟩⟩
    · have : (0 : Int) + (i : Nat) = (i : Nat) := by omega
      rw [this]; exact .int _
    · exact (((r.lt (hv vs (hs _ _ _ hh e)) hg).hide hh).monoW e).mono (Ext.upd hp)
  stop := fun h ρ' H' i hh e hl => ⟨vs, hs _ _ _ hh e, by rw [r.length]; rw [enumD_len] at hl; exact hl⟩
section
variable {T : Tab} {P : Prog} {call : Call} {X : Cx} {e : Expr} {x : E} {pos : Pos}
/-- for .. in enumerate(e), a list or a tuple -/
theorem SI_enm {p2 tpos : Pos} {elts : List Expr} {kk : Nat} (hK : X.K = T.K) (hg : Gl X "enumerate") (hm : X.mg "enumerate" = none) (ha : PE X e (tE T W0 (ev P call x))) (hn : ∀ y q, e ≠ .Starred y q) :
    PI X (.Tuple elts kk tpos) (.Call (.Name "enumerate" p2) [e] [] pos) (iS T RepW (evI P call (.enm x))) := by
  have s1 : starEach [e] X.env = [(false, eval e X.env)] := starEach_cons e [] X.env hn
  refine ⟨fun pins s σ H R I h => ?_⟩
  obtain ⟨ρ, fr, c, γ, st, en, p⟩ := h
  unfold evI at p
  rcases bindOk' p with ⟨dd, c1, hx⟩ | ⟨xx, fs, c1, hx⟩
  · rw [hx] at p
    cases dd with
    | tup xs =>
      refine (pi_enumT hg hm (pa_cons ha pa_nil s1) s1).run pins s σ H R I (tE_mono (tE_val (W := W0) st en hx p) fun v H1 ⟨ρ1, e1, r1, g1⟩ => ?_)
      obtain ⟨a, vs, rfl, rl, hs⟩ := r1.tupA
      exact ⟨a, vs, rfl, hK ▸ hs.now, g1.p ρ1 H1 (Ext.refl _ _) g1.st _ (hK ▸ iteT_ok rl hs)⟩
    | lst xs =>
      refine (pi_enum hg hm (pa_cons ha pa_nil s1) s1).run pins s σ H R I (tE_mono (tE_val (W := W0) st en hx p) fun v H1 ⟨ρ1, e1, r1, g1⟩ => ?_)
      obtain ⟨a, vs, rfl, rl, hs⟩ := r1.lstA
      exact ⟨a, vs, rfl, hK ▸ hs.now, g1.p ρ1 H1 (Ext.refl _ _) g1.st _ (hK ▸ ite_ok rl hs)⟩
    | _ => exact p.elim
  · rw [hx] at p
    refine (pi_enum hg hm (pa_cons ha pa_nil s1) s1).run pins s σ H R I ⟨ρ, fr, c, γ, st, en, ?_⟩
    rw [hx]
    exact p
end
end MP
end
section
set_option maxRecDepth 100000
set_option maxHeartbeats 2000000
namespace MP
open PySem PySem.Spec PyProof.Rows L2

/-- what the globals are -/
structure Gb where
  fn : Str → Option Str
  dv : Str → Nat → Option (List K)
  cl : Str → Option Str
  con : Str → Option K
  kd : Str → Option (List (Str × K))
  init : Str → Option Str
  ini0 : Str → Bool
  free : Str → Bool
  mt : Pos → Bool
structure Inf where
  N : List Str
  sc : Scope
  st : Scope   -- the names that may be stored
  lam : Bool   -- may lambdas be made here
def isVis (sc : Scope) (x : Str) : Bool := match sc.names.lookup x with
  | some .local => true
  | some .cell => true
  | some .free => true
  | _ => false
def isLoc (sc : Scope) (x : Str) : Bool := match sc.names.lookup x with
  | some .local => true
  | some .cell => true
  | _ => false
def isLocal (sc : Scope) (x : Str) : Bool := match sc.names.lookup x with
  | some .local => true
  | _ => false
def isGl (sc : Scope) (x : Str) : Bool := match sc.names.lookup x with
  | some .globalImplicit => !(x == ("__debug__" : Str))
  | _ => false
def ixOf (x : Str) : List Str → Nat → Option Nat
  | [], _ => none
  | y :: ys, i => if x = y then some i else ixOf x ys (i + 1)
/-- the slot of a name that is seen -/
def Inf.slot (I : Inf) (x : Str) : Option Nat := if isVis I.sc x && (!(x == ("__debug__" : Str)) && !(x == ("__classdict__" : Str))) then ixOf x I.N 0 else none
def biOf (x : Str) : Option Bi :=
  if x = "len" then some .len else if x = "tuple" then some .tuple else if x = "list" then some .list else if x = "dict" then some .dict else if x = "int" then some .int else if x = "str" then some .str
  else if x = "abs" then some .abs else if x = "max" then some .max else if x = "min" then some .min else if x = "sum" then some .sum else if x = "all" then some .all else if x = "any" then some .any else if x = "repr" then some .repr else none
def tyStr (x : Str) : Option String :=
  if x = "int" then some "int" else if x = "bool" then some "bool" else if x = "str" then some "str" else if x = "tuple" then some "tuple" else if x = "list" then some "list" else if x = "dict" then some "dict" else none
def noSuper : Expr → Bool
  | .Call (.Name id _) _ _ _ => !(id == ("super" : Str))
  | _ => true
def plainB : Expr → Bool
  | .Slice _ _ _ _ => false
  | _ => true
def valB : Expr → Bool
  | .UnaryOp .Not _ _ => false
  | .BoolOp _ _ _ => false
  | .IfExp _ _ _ _ => false
  | .Compare _ _ _ _ => false
  | _ => true
/-- the type that a name stands for -/
def cTy (G : Gb) (I : Inf) : Expr → Option Ty
  | .Name n _ => if isGl I.sc n then (match G.cl n with
      | some c => some (.own c)
      | none => if G.free n then (tyStr n).map .blt else none) else none
  | _ => none
/-- a target's code -/
def cTgs (I : Inf) : List Expr → Option (List Nat)
  | [] => some []
  | .Name x _ :: es => (match I.slot x, cTgs I es with
    | some i, some is => if isLoc I.st x then some (i :: is) else none
    | _, _ => none)
  | _ => none
def cTg (I : Inf) : Expr → Option Tg
  | .Name x _ => (match I.slot x with
    | some i => if isLoc I.st x then some (.nm i) else none
    | none => none)
  | .Tuple es _ _ => (cTgs I es).map .tp
  | _ => none
/-- the slots of a block's own names -/
def ownL (N : List Str) : List (Str × NameKind) → List (Str × Nat)
  | [] => []
  | (x, kk) :: r => match kk, ixOf x N 0 with
    | .local, some i => (x, i) :: ownL N r
    | .cell, some i => (x, i) :: ownL N r
    | _, _ => ownL N r
def noSet : Expr → Bool
  | .Set _ _ _ => false
  | _ => true
def relab (out sc : Scope) : Scope := { sc with names := sc.names.map fun (n, k) => if (k == NameKind.free && out.kind == .function && out.names.lookup n == some .cell) then (n, NameKind.cell) else (n, k) }
def Inf.into (I : Inf) (sc : Scope) : Inf := ⟨I.N, relab I.sc sc, sc, false⟩
/-- as many bad ones -/
def cJ0 : List Expr → Es
  | [] => .nil
  | _ :: es => .cons .bot (cJ0 es)
/-- a lambda behind the other arguments -/
def splitLam : List Expr → Option (List Expr × Arguments × Expr × Scope)
  | [] => none
  | [.Lambda ps b sc _] => some ([], ps, b, sc)
  | e :: es => (splitLam es).map fun r => (e :: r.1, r.2)
def frees (sc : Scope) : List Str := sc.names.filterMap fun y => if y.2 = .free then some y.1 else none
def ixs (N : List Str) : List Str → Option (List Nat)
  | [] => some []
  | y :: ys => match ixOf y N 0, ixs N ys with
    | some i, some is => some (i :: is)
    | _, _ => none
def lamN (N lps fv : List Str) : List Str := lps ++ fv ++ N.filter fun y => !((lps ++ fv).contains y)
def lamB (I : Inf) (front : List Expr) (sc : Scope) (lps : List Str) : Bool := I.lam && (noStar front && (NdefX.nscB (lamN I.N lps (frees sc)) lps (frees sc) sc && (frees sc).all fun y => (match I.sc.names.lookup y with
  | some .cell => true
  | _ => false) && isLoc I.st y))
/-- a dict of the module, by its name -/
def kdOf (G : Gb) (I : Inf) : Expr → Option (List (Str × K))
  | .Name n _ => if isGl I.sc n then G.kd n else none
  | _ => none
section
variable (G : Gb)
mutual
def cE (I : Inf) : Nat → Expr → E
  | 0, _ => .bot
  | n + 1, e => match e with
    | .ListComp elt [⟨tg, iter, ifs, 0⟩] sc p => (match cTg (I.into sc) tg with
      | some t => if blkC I.N I.sc sc (ownL I.N sc.names) && ((tgIx t).all fun i => decide (i ∈ (ownL I.N sc.names).map (·.2))) && noSet iter then
          .comp (cE (I.into sc) n elt) t (cI I n iter) (cC (I.into sc) n ifs) ((ownL I.N sc.names).map (·.2)) (G.mt p) else .bot
      | none => .bot)
    | .ListComp elt [⟨tg, iter, ifs, 0⟩, ⟨tg2, iter2, ifs2, 0⟩] sc p => (match cTg (I.into sc) tg, cTg (I.into sc) tg2 with
      | some t, some t2 => if blkC I.N I.sc sc (ownL I.N sc.names) && ((tgIx t).all fun i => decide (i ∈ (ownL I.N sc.names).map (·.2))) && ((tgIx t2).all fun i => decide (i ∈ (ownL I.N sc.names).map (·.2))) && (noSet iter && noSet iter2) then
          .comp2 (cE (I.into sc) n elt) t (cI I n iter) (cC (I.into sc) n ifs) t2 (cI (I.into sc) n iter2) (cC (I.into sc) n ifs2) ((ownL I.N sc.names).map (·.2)) (tgIx t2) (G.mt p) else .bot
      | _, _ => .bot)
    | .DictComp kx vx [⟨tg, iter, ifs, 0⟩] sc p => (match cTg (I.into sc) tg with
      | some t => if blkC I.N I.sc sc (ownL I.N sc.names) && ((tgIx t).all fun i => decide (i ∈ (ownL I.N sc.names).map (·.2))) && noSet iter then
          .dcomp (cE (I.into sc) n kx) (cE (I.into sc) n vx) t (cI I n iter) (cC (I.into sc) n ifs) ((ownL I.N sc.names).map (·.2)) else .bot
      | none => .bot)
    | .Constant (.int i) _ _ => .con (.int i)
    | .Constant (.bool i) _ _ => .con (.bl i)
    | .Constant (.str i) _ _ => .con (.str i)
    | .Constant .none _ _ => .con .non
    | .Name x _ => (match I.slot x with
      | some i => .var i
      | none => if isGl I.sc x then (match G.con x with
        | some d => .con d
        | none => .bot) else .bot)
    | .Tuple es _ _ => .tup (cEs I n es)
    | .List es p => .lst (cEs I n es) (G.mt p)
    | .BinOp a op b _ => .bin op (cE I n a) (cE I n b)
    | .UnaryOp .USub a _ => .neg (cE I n a)
    | .UnaryOp .Not a _ => .nt (cE I n a)
    | .BoolOp .And es _ => .an (cEs I n es)
    | .BoolOp .Or es _ => .orr (cEs I n es)
    | .IfExp c a b _ => .ite (cT I n c) (cE I n a) (cE I n b)
    | .Compare a [op] [b] _ => if behindInMarks op b then .bot else (match kdOf G I b with
      | none => .cmp op (cE I n a) (cE I n b)
      | some kvs => (match op with
        | .In => .kin false (cE I n a) kvs
        | .NotIn => .kin true (cE I n a) kvs
        | _ => .bot))
    | .Compare a [o1, o2] [b, d] _ => if lastMarks [o1, o2] [b, d] then .bot else .chain o1 o2 (cE I n a) (cE I n b) (cE I n d)
    | .Subscript a (.Slice lo hi none _) _ => .slc (cE I n a) (cP I n lo) (cP I n hi)
    | .Subscript a b _ => if plainB b then (match kdOf G I a with
      | none => .idx (cE I n a) (cE I n b)
      | some kvs => .kix (cE I n b) kvs) else .bot
    | .Attribute o f _ => if noSuper o then .att (cE I n o) f else .bot
    | .Call (.Name f _) (a :: as) [] p => match I.slot f with
      | some i => if noStar (a :: as) then .callv i (cEs I n (a :: as)) else .bot
      | none => if isGl I.sc f && noStar (a :: as) then
        (match G.fn f with
        | some q => (match splitLam (a :: as) with
          | some (front, params, body, lsc) => (match parB params with
            | some lps => if lamB I front lsc lps then (match ixs I.N (frees lsc) with
              | some is => .calll q (cEs I n front) (cE ⟨lamN I.N lps (frees lsc), lsc, lsc, false⟩ n body) (lamN I.N lps (frees lsc)).length lps.length is
              | none => .bot) else .bot
            | none => .bot)
          | none => (match G.dv q (as.length + 1) with
            | some dv => .call q (cEs I n (a :: as)) dv
            | none => .bot))
        | none => match G.cl f with
          | some cn => (match G.init cn with
            | some q => (match G.dv q (as.length + 2) with
              | some dv => .mk cn (cEs I n (a :: as)) dv
              | none => .bot)
            | none => .bot)
          | none => if G.free f then
            (if f = "isinstance" then (match as with
              | [t] => (match cTy G I t with
                | some ty => .isi (cE I n a) [ty]
                | none => .bot)
              | _ => .bot)
            else if f = "list" ∧ G.mt p = true ∧ as = [] then .lsm (cE I n a)
            else match biOf f with
              | some b => .blt b (cEs I n (a :: as))
              | none => .bot) else .bot) else .bot
    | .JoinedStr [a] _ => cE I n a
    | .JoinedStr (a :: b :: es) _ => .fstr (cJs I n (a :: b :: es))
    | .FormattedValue a cv sp _ => if cv = -1 then (match sp with
      | none => .fmt (cE I n a)
      | some _ => .bot) else .bot
    | .Call (.Name f _) [] [] _ => (match I.slot f with
      | some i => .callv i .nil
      | none => if isGl I.sc f then (match G.fn f with
      | some q => (match G.dv q 0 with
        | some dv => .call q .nil dv
        | none => .bot)
      | none => (match G.cl f with
        | some cn => if G.ini0 cn then .mk cn .nil [] else .bot
        | none => .bot)) else .bot)
    | .Call (.Name f _) es (kw :: kws) _ => (match kwNames (kw :: kws) with
      | some nn => if isGl I.sc f && (noStar es && decide ((cKs I n (kw :: kws)).len = nn.length)) then (match G.fn f with
        | some q => .callk q (cEs I n es) (cKs I n (kw :: kws)) nn
        | none => (match G.cl f with
          | some cn => (match G.init cn with
            | some q => .mkk cn (cEs I n es) (cKs I n (kw :: kws)) nn
            | none => .bot)
          | none => .bot)) else .bot
      | none => .bot)
    | .Call (.Attribute o m ap) es (kw :: kws) p => (match kwNames (kw :: kws) with
      | some nn => if noSuper o && (noStar es && ((ap.endLine == p.line) && (decide (es.length + kws.length < 28) && decide ((cKs I n (kw :: kws)).len = nn.length)))) then .mthk (cE I n o) m (cEs I n es) (cKs I n (kw :: kws)) nn else .bot
      | none => .bot)
    | .Call (.Attribute o m ap) [] [] p => if noSuper o && (ap.endLine == p.line) then .mth (cE I n o) m .nil else .bot
    | .Call (.Attribute o m ap) (a :: as) [] p => if noSuper o && (noStar (a :: as) && ((ap.endLine == p.line) && decide (as.length < 29))) then (match as with
      | [] => if m = "append" then .app (cE I n o) (cE I n a) else if m = "pop" then .popi (cE I n o) (cE I n a) else .mth (cE I n o) m (cEs I n [a])
      | b :: bs => .mth (cE I n o) m (cEs I n (a :: b :: bs))) else .bot
    | _ => .bot
def cEs (I : Inf) : Nat → List Expr → Es
  | 0, es => cJ0 es
  | _ + 1, [] => .nil
  | n + 1, e :: es => if noStar [e] then .cons (cE I n e) (cEs I n es) else .cons .bot .nil
def cKs (I : Inf) : Nat → List Keyword → Es
  | 0, ks => (match ks with
    | [] => .nil
    | _ => .cons .bot .nil)
  | _ + 1, [] => .nil
  | n + 1, ⟨_, e, _⟩ :: es => .cons (cE I n e) (cKs I n es)
def cJs (I : Inf) : Nat → List Expr → Es
  | _, [] => .nil
  | 0, _ :: es => .cons .bot (cJ0 es)
  | n + 1, e :: es => .cons (cE I n e) (cJs I n es)
def cP (I : Inf) : Nat → Option Expr → Eo
  | 0, _ => .some .bot
  | _ + 1, none => .none
  | n + 1, some e => .some (cE I n e)
def cT (I : Inf) : Nat → Expr → T
  | 0, _ => .e .bot
  | n + 1, e => match e with
    | .UnaryOp .Not a _ => .nt (cT I n a)
    | .BoolOp .And es _ => .an (cTs I n es)
    | .BoolOp .Or es _ => .orr (cTs I n es)
    | .Compare a [op] [b] _ => if behindInMarks op b then .e .bot else (match kdOf G I b with
      | none => .e (.cmp op (cE I n a) (cE I n b))
      | some kvs => (match op with
        | .In => .e (.kin false (cE I n a) kvs)
        | .NotIn => .e (.kin true (cE I n a) kvs)
        | _ => .e .bot))
    | .Compare a [o1, o2] [b, d] _ => if lastMarks [o1, o2] [b, d] then .e .bot else .e (.chain o1 o2 (cE I n a) (cE I n b) (cE I n d))
    | e => if valB e then .tv (cE I n e) else .e .bot
def cTs (I : Inf) : Nat → List Expr → Ts
  | 0, _ => .one (.e .bot)
  | _ + 1, [] => .one (.e .bot)
  | n + 1, [e] => .one (cT I n e)
  | n + 1, e :: es => .cons (cT I n e) (cTs I n es)
def cC (I : Inf) : Nat → List Expr → To
  | 0, _ => .some (.e .bot)
  | _ + 1, [] => .none
  | n + 1, [e] => .some (cT I n e)
  | _ + 1, _ => .some (.e .bot)
def cI (I : Inf) : Nat → Expr → It
  | 0, _ => .seq .bot
  | n + 1, e => match e with
    | .Call (.Name f _) [a] [] _ => if f = "range" then (if isGl I.sc f && (G.free f && noStar [a]) then .rng (cE I n a) else .seq .bot) else .seq (cE I n e)
    | .Call (.Name f _) [a, b] [] _ => if f = "range" then (if isGl I.sc f && (G.free f && noStar [a, b]) then .rng2 (cE I n a) (cE I n b) else .seq .bot) else .seq (cE I n e)
    | e => .seq (cE I n e)
end
end

/-- the same program, the same place in the call stack -/
structure Sim (X Y : Cx) : Prop where
  prog : Y.prog = X.prog
  w : Y.w = X.w
  K : Y.K = X.K
  mg : Y.mg = X.mg
  base : Y.base = X.base
  A : Y.A = X.A
  calm : Y.calm = X.calm
theorem Sim.refl (X : Cx) : Sim X X := ⟨rfl, rfl, rfl, rfl, rfl, rfl, rfl⟩
theorem Sim.trans {X Y Z : Cx} (a : Sim X Y) (b : Sim Y Z) : Sim X Z := ⟨b.prog.trans a.prog, b.w.trans a.w, b.K.trans a.K, b.mg.trans a.mg, b.base.trans a.base, b.A.trans a.A, b.calm.trans a.calm⟩
/-- what T tells of lambdas -/
def lpOf (G : Gb) : Arguments → Expr → Scope → List Str → List Str → E → Nat → Prop := fun params body scope lps fv x sz => ∃ N m, parB params = some lps ∧ NdefX.nscB N lps fv scope = true ∧ x = cE G ⟨N, scope, scope, false⟩ m body ∧ sz = N.length
structure Good (T : Tab) (P : Prog) (call : Call) (G : Gb) (k : Nat) (X : Cx) : Prop where
  K : X.K = T.K
  calm : X.calm = true
  room : RoomG (k + 1) X.A
  tr : ∀ Y, Sim X Y → ∀ h, TrR Y (rTX (T.hide h) P call)
  lm : ∀ Y, Sim X Y → ∀ h, LamR Y (T.hide h) call
  lp : T.lp = lpOf G
  mk0 : ∀ cn, G.ini0 cn = true → P.exc cn = false ∧ P.init cn = some none ∧ ∃ C, T.cA cn = some C ∧ Mk0 X.K C
  fnk : ∀ n q, G.fn n = some q → ∃ fa fd ps, X.mg n = some (.ref fa) ∧ (∀ h, FnG X (T.hide h) call k q fa fd ps) ∧ KwD X.K T P q fd ps
  mkk : ∀ cn q, G.init cn = some q → P.exc cn = false ∧ P.init cn = some (some q) ∧ ∃ C fa fd ps, T.cA cn = some C ∧ Mk X.K C fa ∧ (∀ h, FnG X (T.hide h) call k q fa fd ps) ∧ KwD X.K T P q fd ps
  mtk : ∀ h, KwG X (T.hide h) P call k
  op : ∀ Y, Sim X Y → ∀ h op, OpR Y (compareOp op) (rCX (T.hide h) P call op)
  bi : ∀ Y, Sim X Y → ∀ h f, CallR Y (Bi.vl f) (rBX (T.hide h) P call f)
  ob : ∀ h, ObF X (T.hide h) P call k
  ty : TyF T P
  fn : ∀ n q, G.fn n = some q → ∃ fa fd ps, X.mg n = some (.ref fa) ∧ (∀ h, FnG X (T.hide h) call k q fa fd ps) ∧ ∀ m dv, G.dv q m = some dv → ∀ h, Dfl X (T.hide h) fd ps (dv.map MP.K.toD)
  cl : ∀ n c, G.cl n = some c → ∃ C, X.mg n = some (.ref C) ∧ T.cA c = some C
  con : ∀ n d, G.con n = some d → ∃ u v, X.mg n = some u ∧ RelV v u ∧ ∀ h ρ H, Rep (T.hide h) ρ H v (MP.K.toD d)
  mkc : ∀ cn q, G.init cn = some q → P.exc cn = false ∧ P.init cn = some (some q) ∧ ∃ C fa fd ps, T.cA cn = some C ∧ Mk X.K C fa ∧ (∀ h, FnG X (T.hide h) call k q fa fd ps) ∧ ∀ m dv, G.dv q m = some dv → ∀ h, Dfl X (T.hide h) fd ps (dv.map MP.K.toD)
  kd : ∀ n kvs, G.kd n = some kvs → ∃ d, X.mg n = some (.ref d) ∧ KdAt X.K X.w T d kvs
  free : ∀ n, G.free n = true → X.mg n = none ∧ n ≠ ("__name__" : Str)
  any : ∀ f, (P.fun? f).isSome = true → ∃ fa fd ps, ∀ h, FnG X (T.hide h) call k f fa fd ps
structure GoodI (T : Tab) (I : Inf) (X : Cx) : Prop where
  lam : I.lam = true → ∃ c0 P0, LamX.TabB X.base X.mg c0 P0 ∧ X.env.code = .ref c0 ∧ (P0, X.env.qual ++ "<lambda>") ∈ T.tb ∧ ∀ p ∈ T.tb, p.1 = P0 → p.2 = X.env.qual ++ "<lambda>"
  N : X.N = I.N
  nd : X.N.Nodup
  sc : X.env.scope = I.sc
  loc : ∀ x, isLoc I.st x = true → L2.Loc X.env.scope x ∧ (X.fn x = true ∨ X.env.scope.names.lookup x = some .local)
section
variable {T : Tab} {P : Prog} {call : Call} {G : Gb} {I : Inf} {k : Nat} {X : Cx} {a b d e o : Expr} {pos : Pos}
theorem PE_bad {f : Evl D} (h : ∀ γ b c, f γ b c = .bad) : PE X e (tE T W0 f) := ⟨fun pins s σ H Q I ⟨ρ, fr, c, γ, st, en, p⟩ => by rw [h] at p; exact p.elim⟩
theorem PK_bad {ks : List Keyword} {f : Evl (List D)} (h : ∀ γ b c, f γ b c = .bad) : PK X ks (tA T W0 f) := ⟨fun pos pins s σ H Q I ⟨ρ, fr, c, γ, st, en, p⟩ => by rw [h] at p; exact p.elim⟩
theorem cEs_nil : ∀ n, cEs G I n [] = .nil
  | 0 => by unfold cEs; rfl
  | n + 1 => by unfold cEs; rfl
theorem PA_bad {es : List Expr} {f : Evl (List D)} (h : ∀ γ b c, f γ b c = .bad) : PA X es (tA T W0 f) := ⟨fun pos pins s σ H Q I ⟨ρ, fr, c, γ, st, en, p⟩ => by rw [h] at p; exact p.elim⟩
theorem PT_bad {f : Evl Bool} (h : ∀ γ b c, f γ b c = .bad) : PT X e (tT T W0 f) := ⟨fun pins s σ H Q I ⟨ρ, fr, c, γ, st, en, p⟩ => by rw [h] at p; exact p.elim⟩
theorem PW_bad {f : Evl Bool} (h : ∀ γ b c, f γ b c = .bad) : PW X e (tT T W0 f) := ⟨fun wh pins s σ H Q I ⟨ρ, fr, c, γ, st, en, p⟩ => by rw [h] at p; exact p.elim⟩
theorem PO_bad {o : Option Expr} {f : Evl (Option Int)} (h : ∀ γ b c, f γ b c = .bad) : PO X o (tP T W0 f) := ⟨fun pins s σ H Q I ⟨ρ, fr, c, γ, st, en, p⟩ => by rw [h] at p; exact p.elim⟩
theorem ev_bot (γ : MP.Env) (b : Nat) (c : List Cell) : ev P call .bot γ b c = .bad := by unfold ev; rfl
theorem isVis_ok {sc : Scope} {x : Str} (h : isVis sc x = true) : Vis sc x := by
  unfold isVis at h
  unfold Vis
  cases q : sc.names.lookup x with
  | none => rw [q] at h; cases h
  | some kk => rw [q] at h; cases kk <;> first | exact .inl rfl | exact .inr (.inl rfl) | exact .inr (.inr rfl) | cases h
theorem isLoc_ok {sc : Scope} {x : Str} (h : isLoc sc x = true) : L2.Loc sc x := by
  unfold isLoc at h
  unfold L2.Loc
  cases q : sc.names.lookup x with
  | none => rw [q] at h; cases h
  | some kk => rw [q] at h; cases kk <;> first | exact .inl rfl | exact .inr rfl | cases h
theorem isGl_ok {sc : Scope} {x : Str} (h : isGl sc x = true) : sc.names.lookup x = some .globalImplicit ∧ (x == ("__debug__" : Str)) = false := by
  unfold isGl at h
  cases q : sc.names.lookup x with
  | none => rw [q] at h; cases h
  | some kk =>
    rw [q] at h
    cases kk <;> first | exact ⟨rfl, by simpa using h⟩ | cases h
theorem ixOf_ok {x : Str} : ∀ {ys : List Str} {i j : Nat}, ixOf x ys i = some j → ∃ m, j = i + m ∧ ys[m]? = some x
  | [], i, j, h => by cases h
  | y :: ys, i, j, h => by
    unfold ixOf at h
    by_cases z : x = y
    · rw [if_pos z] at h; cases h
      exact ⟨0, rfl, by rw [z]; rfl⟩
    · rw [if_neg z] at h
      obtain ⟨m, h1, h2⟩ := ixOf_ok h
      exact ⟨m + 1, by omega, by simpa using h2⟩
theorem slot_ok {x : Str} {i : Nat} (h : I.slot x = some i) : isVis I.sc x = true ∧ (x == ("__debug__" : Str)) = false ∧ (x == ("__classdict__" : Str)) = false ∧ I.N[i]? = some x := by
  unfold Inf.slot at h
  split at h
  · rename_i hz
    simp only [Bool.and_eq_true, Bool.not_eq_true'] at hz
    obtain ⟨m, h1, h2⟩ := ixOf_ok h
    have : i = m := by omega
    exact ⟨hz.1, hz.2.1, hz.2.2, this ▸ h2⟩
  · cases h
theorem splitLam_ok : ∀ {es front : List Expr} {params : Arguments} {body : Expr} {lsc : Scope}, splitLam es = some (front, params, body, lsc) → ∃ lpos, es = front ++ [.Lambda params body lsc lpos]
  | [], _, _, _, _, h => by cases h
  | e :: es, front, params, body, lsc, h => by
    unfold splitLam at h
    split at h
    · cases h
    · rename_i z
      cases z
      cases h
      exact ⟨_, rfl⟩
    · rename_i z
      cases z
      obtain ⟨r, h1, h2⟩ := Option.map_eq_some_iff.mp h
      obtain ⟨r1, r2, r3, r4⟩ := r
      cases h2
      obtain ⟨lpos, rfl⟩ := splitLam_ok h1
      exact ⟨lpos, rfl⟩
theorem ixs_ok {N : List Str} : ∀ {ys : List Str} {is : List Nat}, ixs N ys = some is → is.map (fun i => N[i]?) = ys.map some
  | [], is, h => by cases h; rfl
  | y :: ys, is, h => by
    unfold ixs at h
    cases h1 : ixOf y N 0 with
    | none => rw [h1] at h; cases h
    | some i =>
      cases h2 : ixs N ys with
      | none => rw [h1, h2] at h; cases h
      | some is' =>
        rw [h1, h2] at h
        cases h
        obtain ⟨m, g1, g2⟩ := ixOf_ok h1
        have e : i = m := by omega
        subst e
        rw [List.map_cons, List.map_cons, g2, ixs_ok h2]
theorem sl0 : ∀ {es : List Expr}, noStar es = true → SL T P call W0 X es (cJ0 es)
  | [], _ => .nil
  | e :: es, h => .cons (PE_bad ev_bot) (noStar_cons h).1 (sl0 (noStar_cons h).2)
theorem plainB_ok {b : Expr} (h : plainB b = true) : PlainIx b := by
  cases b <;> first | exact fun _ _ => rfl | cases h
theorem noSuper_ok {o : Expr} (h : noSuper o = true) (f : Str) (env : PySem.Env) (w : Sem Value) : attributeBase o f env w = w := by
  cases o with
  | Call fe as kws p =>
    cases fe with
    | Name id p2 =>
      have h' : (!(id == ("super" : Str))) = true := h
      have hne : (id != ("super" : Str)) = true := h'
      unfold attributeBase
      cases as <;> cases kws <;> first | rfl | simp [hne]
    | _ => rfl
  | _ => rfl
theorem form_of {env : PySem.Env} {pos : Pos} : ∀ {es : List Expr} (n : Nat), noStar es = true → n < 30 → methodCallForm n (backTo pos (starEach es env)) (backToKw pos (keywordEach [] env)) = true := by
  intro es n h hn
  have h1 : ∀ {es : List Expr}, noStar es = true → (backTo pos (starEach es env)).all (!·.1) = true := by
    intro es
    induction es with
    | nil => intro _; rfl
    | cons e es ih =>
      intro h
      obtain ⟨n1, n2⟩ := noStar_cons h
      rw [starEach_cons e es env n1]
      show (true && (backTo pos (starEach es env)).all (!·.1)) = true
      rw [ih n2]; rfl
  unfold methodCallForm
  rw [h1 h]
  show (true && true && decide (n + 0 < 30)) = true
  simp [hn]
theorem meth_eval {o : Expr} {m : Str} {apos pos : Pos} {es : List Expr} {env : PySem.Env} (hs : noSuper o = true) (hn : noStar es = true) (hl : (apos.endLine == pos.line) = true) (h30 : es.length < 30) :
    eval (.Call (.Attribute o m apos) es [] pos) env = (do
      let ov ← eval o env
      standAt apos.atName
      let (f, first) ← holding [ov] (getMethod ov m (do return (← importBound o env).getD true))
      callWith pos f first (backTo pos (starEach es env)) (backToKw pos (keywordEach [] env))) := by
  show (do
    let ov ← attributeBase o m env (eval o env)
    standAt apos.atName
    methodCall o m apos pos env ov (es.length + 0) (backTo pos (starEach es env)) (backToKw pos (keywordEach [] env))) = _
  rw [noSuper_ok hs]
  have hf : methodCallForm (es.length + 0) (backTo pos (starEach es env)) (backToKw pos (keywordEach [] env)) = true := form_of _ hn (by omega)
  have hp : methodCallPos true o env apos pos = pure pos := by
    unfold methodCallPos
    rw [hl]
    rfl
  unfold methodCall
  rw [hf, hp]
  rfl
theorem form_ofK {env : PySem.Env} {pos : Pos} {es : List Expr} {kws : List Keyword} {nn : List Str} (n : Nat) (h : noStar es = true) (hk : kwNames kws = some nn) (hn : n + 1 < 30) : methodCallForm n (backTo pos (starEach es env)) (backToKw pos (keywordEach kws env)) = true := by
  have h0 := form_of (env := env) (pos := pos) 0 h (by decide)
  unfold methodCallForm at h0 ⊢
  rw [Bool.and_eq_true, Bool.and_eq_true] at h0
  rw [h0.1.1, (kw_forms pos env hk).1]
  simp only [Bool.and_self, Bool.true_and, decide_eq_true_eq]
  split <;> omega
theorem meth_evalK {o : Expr} {m : Str} {apos pos : Pos} {es : List Expr} {kws : List Keyword} {nn : List Str} {env : PySem.Env} (hs : noSuper o = true) (hn : noStar es = true) (hk : kwNames kws = some nn) (hl : (apos.endLine == pos.line) = true) (h30 : es.length + kws.length < 29) :
    eval (.Call (.Attribute o m apos) es kws pos) env = (do
      let ov ← eval o env
      standAt apos.atName
      let (f, first) ← holding [ov] (getMethod ov m (do return (← importBound o env).getD true))
      callWith pos f first (backTo pos (starEach es env)) (backToKw pos (keywordEach kws env))) := by
  show (do
    let ov ← attributeBase o m env (eval o env)
    standAt apos.atName
    methodCall o m apos pos env ov (es.length + kws.length) (backTo pos (starEach es env)) (backToKw pos (keywordEach kws env))) = _
  rw [noSuper_ok hs]
  have hf : methodCallForm (es.length + kws.length) (backTo pos (starEach es env)) (backToKw pos (keywordEach kws env)) = true := form_ofK _ hn hk (by omega)
  have hp : methodCallPos true o env apos pos = pure pos := by
    unfold methodCallPos
    rw [hl]
    rfl
  unfold methodCall
  rw [hf, hp]
  rfl
theorem valB_ok {a : Expr} (h : valB a = true) (env : PySem.Env) (whole : Sem Value) : isTrue a env whole = (do let v ← whole; standAt a.pos; holding [v] (truthy v)) := by
  cases a with
  | UnaryOp op x p => cases op <;> first | rfl | cases h
  | BoolOp _ _ _ => cases h
  | IfExp _ _ _ _ => cases h
  | Compare _ _ _ _ => cases h
  | _ => rfl
theorem ite_some {α : Type} {c : Prop} [Decidable c] {a : α} {r : Option α} {Q : α → Prop} {b : α} (h : (if c then some a else r) = some b) (h1 : c → Q a) (h2 : r = some b → Q b) : Q b := by
  by_cases hc : c
  · rw [if_pos hc] at h; cases h; exact h1 hc
  · rw [if_neg hc] at h; exact h2 h
theorem biOf_ok {x : Str} {b : Bi} (h : biOf x = some b) : x = b.nm := by
  unfold biOf at h
  iterate 13
    refine ite_some (Q := fun b => x = b.nm) h (fun e => e) ?_
    clear h
    intro h
  cases h
theorem tyStr_ok {x : Str} {m : String} (h : tyStr x = some m) : bootBuiltins x = some (.type m) ∧ (x == ("__debug__" : Str)) = false := by
  unfold tyStr at h
  repeat' split at h
  all_goals first | (cases h; subst_vars; exact ⟨by decide +kernel, by decide +kernel⟩) | cases h
theorem Good.glob (g : Good T P call G k X) (gi : GoodI T I X) {x : Str} (h : isGl I.sc x = true) : Gl X x := by
  show X.env.scope.names.lookup x = _
  rw [gi.sc]
  exact (isGl_ok h).1
theorem Good.kdx (g : Good T P call G k X) (gi : GoodI T I X) {e : Expr} {kvs : List (Str × MP.K)} (h : kdOf G I e = some kvs) : ∃ d, KdAt X.K X.w T d kvs ∧ PE X e (tC (.ref d)) := by
  cases e with
  | Name n p =>
    have h1 : (if isGl I.sc n then G.kd n else none) = some kvs := h
    by_cases hg : isGl I.sc n = true
    · rw [if_pos hg] at h1
      obtain ⟨d, h2, h3⟩ := g.kd n kvs h1
      exact ⟨d, h3, pe_glob (g.glob gi hg) h2 rfl (isGl_ok hg).2⟩
    · rw [if_neg hg] at h1; cases h1
  | _ => cases h
theorem cTy_ok (g : Good T P call G k X) (gi : GoodI T I X) {t : Ty} (h : cTy G I e = some t) (hh : List Addr) : ∃ v, TyN X (T.hide hh) e t v := by
  cases e with
  | Name n p =>
    have h1 : (if isGl I.sc n then (match G.cl n with
      | some c => some (.own c)
      | none => if G.free n then (tyStr n).map .blt else none) else none) = some t := h
    by_cases hg : isGl I.sc n = true
    · rw [if_pos hg] at h1
      cases hc : G.cl n with
      | some c =>
        rw [hc] at h1; cases h1
        obtain ⟨C, h2, h3⟩ := g.cl n c hc
        exact ⟨_, .own (g.glob gi hg) h2 h3 (isGl_ok hg).2⟩
      | none =>
        rw [hc] at h1
        have h1 : (if G.free n then (tyStr n).map .blt else none) = some t := h1
        by_cases hf : G.free n = true
        · rw [if_pos hf] at h1
          obtain ⟨m, hm, rfl⟩ := Option.map_eq_some_iff.mp h1
          obtain ⟨h2, h3⟩ := g.free n hf
          exact ⟨_, .blt (g.glob gi hg) h2 (tyStr_ok hm).1 h3 (tyStr_ok hm).2⟩
        · rw [if_neg hf] at h1; cases h1
    · rw [if_neg hg] at h1; cases h1
  | _ => cases h
theorem TyF.hide {hh : List Addr} (F : TyF T P) : TyF (T.hide hh) P := ⟨F.own, F.ins⟩
theorem Good.blk (g : Good T P call G k X) {s : Shared} {H : Hp} {sc : Scope} {ce : PySem.Env} {fp : List Addr} : Good T P call G k (X.blk s H sc ce fp) where
  K := g.K
  calm := g.calm
  room := g.room
  tr := fun Y e => g.tr Y ⟨e.prog, e.w, e.K, e.mg, e.base, e.A, e.calm⟩
  lm := fun Y e => g.lm Y ⟨e.prog, e.w, e.K, e.mg, e.base, e.A, e.calm⟩
  lp := g.lp
  mk0 := g.mk0
  fnk := fun n q e => let ⟨fa, fd, ps, h1, h2, h3⟩ := g.fnk n q e; ⟨fa, fd, ps, h1, fun h => ⟨(h2 h).at_, (h2 h).kp, (h2 h).fn, (h2 h).ok, (h2 h).bd⟩, h3⟩
  mkk := fun cn q e => let ⟨h0, h1, C, fa, fd, ps, h2, h3, h4, h5⟩ := g.mkk cn q e; ⟨h0, h1, C, fa, fd, ps, h2, h3, fun h => ⟨(h4 h).at_, (h4 h).kp, (h4 h).fn, (h4 h).ok, (h4 h).bd⟩, h5⟩
  mtk := fun h cn f q e => let ⟨C, a, fd, ps, h1, h2, h3, h4, h5⟩ := g.mtk h cn f q e; ⟨C, a, fd, ps, h1, h2, h3, ⟨h4.at_, h4.kp, h4.fn, h4.ok, h4.bd⟩, h5⟩
  op := fun Y e => g.op Y ⟨e.prog, e.w, e.K, e.mg, e.base, e.A, e.calm⟩
  bi := fun Y e => g.bi Y ⟨e.prog, e.w, e.K, e.mg, e.base, e.A, e.calm⟩
  ob := fun h => ⟨(g.ob h).fld, fun cn f q e => let ⟨C, p, a, fd, ps, h1, h2, h3, h4⟩ := (g.ob h).prop cn f q e; ⟨C, p, a, fd, ps, h1, h2, h3, ⟨h4.at_, h4.kp, h4.fn, h4.ok, h4.bd⟩⟩,
    fun cn f q e => let ⟨C, a, fd, ps, h1, h2, h3, h4⟩ := (g.ob h).meth cn f q e; ⟨C, a, fd, ps, h1, h2, h3, ⟨h4.at_, h4.kp, h4.fn, h4.ok, h4.bd⟩⟩⟩
  ty := g.ty
  fn := fun n q e => let ⟨fa, fd, ps, h1, h2, h3⟩ := g.fn n q e; ⟨fa, fd, ps, h1, fun h => ⟨(h2 h).at_, (h2 h).kp, (h2 h).fn, (h2 h).ok, (h2 h).bd⟩, h3⟩
  cl := g.cl
  con := g.con
  mkc := fun cn q e => let ⟨h0, h1, C, fa, fd, ps, h2, h3, h4, h5⟩ := g.mkc cn q e; ⟨h0, h1, C, fa, fd, ps, h2, h3, fun h => ⟨(h4 h).at_, (h4 h).kp, (h4 h).fn, (h4 h).ok, (h4 h).bd⟩, h5⟩
  kd := g.kd
  free := g.free
  any := fun f e => let ⟨fa, fd, ps, h1⟩ := g.any f e; ⟨fa, fd, ps, fun h => ⟨(h1 h).at_, (h1 h).kp, (h1 h).fn, (h1 h).ok, (h1 h).bd⟩⟩
theorem relab_local {out sc : Scope} {x : Str} (h : sc.names.lookup x = some .local) : (relab out sc).names.lookup x = some .local := by
  unfold relab
  dsimp only
  generalize sc.names = l at h ⊢
  induction l with
  | nil => cases h
  | cons p r ih =>
    obtain ⟨n, kk⟩ := p
    rw [List.lookup_cons] at h
    rw [List.map_cons]
    cases hb : (x == n) with
    | true =>
      rw [hb] at h; cases h
      show List.lookup x ((if (NameKind.local == NameKind.free && out.kind == .function && out.names.lookup n == some .cell) = true then _ else _) :: _) = _
      rw [if_neg (by simp), List.lookup_cons, hb]
    | false =>
      rw [hb] at h
      have ih' := ih h
      show List.lookup x ((if (kk == NameKind.free && out.kind == .function && out.names.lookup n == some .cell) = true then _ else _) :: _) = _
      split <;> (rw [List.lookup_cons, hb]; exact ih')
theorem relab_cell {out sc : Scope} {x : Str} (h : sc.names.lookup x = some .cell) : (relab out sc).names.lookup x = some .cell := by
  unfold relab
  dsimp only
  generalize sc.names = l at h ⊢
  induction l with
  | nil => cases h
  | cons p r ih =>
    obtain ⟨n, kk⟩ := p
    rw [List.lookup_cons] at h
    rw [List.map_cons]
    cases hb : (x == n) with
    | true =>
      rw [hb] at h; cases h
      show List.lookup x ((if (NameKind.cell == NameKind.free && out.kind == .function && out.names.lookup n == some .cell) = true then _ else _) :: _) = _
      rw [if_neg (by simp), List.lookup_cons, hb]
    | false =>
      rw [hb] at h
      have ih' := ih h
      show List.lookup x ((if (kk == NameKind.free && out.kind == .function && out.names.lookup n == some .cell) = true then _ else _) :: _) = _
      split <;> (rw [List.lookup_cons, hb]; exact ih')
theorem GoodI.blk (gi : GoodI T I X) {s : Shared} {H : Hp} {sc : Scope} {cl : List (Str × Addr)} {C : Addr} {fp : List Addr} : GoodI T (I.into sc) (X.blk s H sc (compEnvC sc cl C X.env) fp) := by
  have e : (X.blk s H sc (compEnvC sc cl C X.env) fp).env.scope = relab I.sc sc := by
    show relabel sc X.env = _
    unfold relabel relab Env.kindOf
    rw [gi.sc]
  refine ⟨(fun z => by cases (show false = true from z)), gi.N, gi.nd, e, fun x hx => ?_⟩
  have hx' : isLoc sc x = true := hx
  unfold isLoc at hx'
  rw [e]
  show L2.Loc _ x ∧ ((sc.names.lookup x == some .cell) = true ∨ _)
  cases q : sc.names.lookup x with
  | none => rw [q] at hx'; cases hx'
  | some kk =>
    rw [q] at hx'
    cases kk with
    | «local» => exact ⟨.inl (relab_local q), .inr (relab_local q)⟩
    | cell => exact ⟨.inr (relab_cell q), .inl rfl⟩
    | _ => cases hx'
theorem loc_ok (gi : GoodI T I X) {x : Str} (h : isLoc I.st x = true) : L2.Loc X.env.scope x := (gi.loc x h).1
theorem cTgs_ok (gi : GoodI T I X) : ∀ {es : List Expr} {is : List Nat}, cTgs I es = some is → NmL X es is
  | [], is, h => by cases h; exact .nil
  | .Name x p :: es, is, h => by
    have h1 : (match I.slot x, cTgs I es with
      | some i, some is => if isLoc I.st x then some (i :: is) else none
      | _, _ => none) = some is := h
    cases hs : I.slot x with
    | none => rw [hs] at h1; cases h1
    | some i =>
      cases ht : cTgs I es with
      | none => rw [hs, ht] at h1; cases h1
      | some is' =>
        rw [hs, ht] at h1
        have h2 : (if isLoc I.st x then some (i :: is') else none) = some is := h1
        by_cases hl : isLoc I.st x = true
        · rw [if_pos hl] at h2; cases h2
          exact .cons (by rw [gi.N]; exact (slot_ok hs).2.2.2) (loc_ok gi hl) (gi.loc x hl).2 (cTgs_ok gi ht)
        · rw [if_neg hl] at h2; cases h2
  | .BoolOp _ _ _ :: _, _, h => by cases h
  | .NamedExpr _ _ _ :: _, _, h => by cases h
  | .BinOp _ _ _ _ :: _, _, h => by cases h
  | .UnaryOp _ _ _ :: _, _, h => by cases h
  | .Lambda _ _ _ _ :: _, _, h => by cases h
  | .IfExp _ _ _ _ :: _, _, h => by cases h
  | .Dict _ _ _ :: _, _, h => by cases h
  | .Set _ _ _ :: _, _, h => by cases h
  | .ListComp _ _ _ _ :: _, _, h => by cases h
  | .SetComp _ _ _ _ :: _, _, h => by cases h
  | .DictComp _ _ _ _ _ :: _, _, h => by cases h
  | .GeneratorExp _ _ _ _ :: _, _, h => by cases h
  | .Await _ _ :: _, _, h => by cases h
  | .Yield _ _ :: _, _, h => by cases h
  | .YieldFrom _ _ :: _, _, h => by cases h
  | .Compare _ _ _ _ :: _, _, h => by cases h
  | .Call _ _ _ _ :: _, _, h => by cases h
  | .FormattedValue _ _ _ _ :: _, _, h => by cases h
  | .JoinedStr _ _ :: _, _, h => by cases h
  | .Constant _ _ _ :: _, _, h => by cases h
  | .Attribute _ _ _ :: _, _, h => by cases h
  | .Subscript _ _ _ :: _, _, h => by cases h
  | .Starred _ _ :: _, _, h => by cases h
  | .List _ _ :: _, _, h => by cases h
  | .Tuple _ _ _ :: _, _, h => by cases h
  | .Slice _ _ _ _ :: _, _, h => by cases h
theorem cTg_ok {T T0 : Tab} (hK : X.K = T.K) (hc : X.calm = true) (gi : GoodI T0 I X) {tg : Expr} {t : Tg} (h : cTg I tg = some t) : PG X tg (gA T t) := by
  cases tg with
  | Name x p =>
    have h1 : (match I.slot x with
      | some i => if isLoc I.st x then some (Tg.nm i) else none
      | none => none) = some t := h
    cases hs : I.slot x with
    | none => rw [hs] at h1; cases h1
    | some i =>
      rw [hs] at h1
      have h2 : (if isLoc I.st x then some (Tg.nm i) else none) = some t := h1
      by_cases hl : isLoc I.st x = true
      · rw [if_pos hl] at h2; cases h2
        exact SG_nm gi.nd (by rw [gi.N]; exact (slot_ok hs).2.2.2) (loc_ok gi hl) (gi.loc x hl).2
      · rw [if_neg hl] at h2; cases h2
  | Tuple es kk p =>
    obtain ⟨is, h1, rfl⟩ := Option.map_eq_some_iff.mp (show (cTgs I es).map .tp = some t from h)
    exact SG_tp hK hc gi.nd (cTgs_ok gi h1)
  | _ => cases h
theorem noSet_ok {iter : Expr} (h : noSet iter = true) (env : PySem.Env) (v : Value) : foldedSetIterable iter env v = pure v := by
  cases iter <;> first | rfl | cases h
/-- all that is shown by the fuel n -/
structure Snd (T : Tab) (P : Prog) (call : Call) (G : Gb) (I : Inf) (X : Cx) (n : Nat) : Prop where
  e : ∀ e h, PE X e (tE (T.hide h) W0 (ev P call (cE G I n e)))
  es : ∀ es h, PA X es (tA (T.hide h) W0 (evs P call (cEs G I n es)))
  sl : ∀ es h, noStar es = true → SL (T.hide h) P call W0 X es (cEs G I n es)
  ks : ∀ ks h, PK X ks (tA (T.hide h) W0 (evs P call (cKs G I n ks)))
  p : ∀ o h, PO X o (tP (T.hide h) W0 (evP P call (cP G I n o)))
  t : ∀ e h, PT X e (tT (T.hide h) W0 (evT P call (cT G I n e)))
  va : ∀ es pos h, PE X (.BoolOp .And es pos) (tE (T.hide h) W0 (evAnd P call (cEs G I n es)))
  vo : ∀ es pos h, PE X (.BoolOp .Or es pos) (tE (T.hide h) W0 (evOr P call (cEs G I n es)))
  wa : ∀ es pos h, PW X (.BoolOp .And es pos) (tT (T.hide h) W0 (evTA P call (cTs G I n es)))
  wo : ∀ es pos h, PW X (.BoolOp .Or es pos) (tT (T.hide h) W0 (evTO P call (cTs G I n es)))
  c : ∀ ifs, PTs X ifs (tI T (evC P call (cC G I n ifs)))
  j : ∀ es h, ∃ ts, SJ (T.hide h) P call W0 X es (cJs G I n es) ts
  i : ∀ tg iter h, PI X tg iter (iS (T.hide h) Rep (evI P call (cI G I n iter)))
theorem PTs_bad {ifs : List Expr} {f : Evl Bool} (h : ∀ γ b c, f γ b c = .bad) : PTs X ifs (tI T f) := ⟨fun pins s σ H Q I ⟨hh, ρ, fr, c, γ, st, en, p⟩ => by rw [h] at p; exact p.elim⟩
theorem PI_bad {tg iter : Expr} {VR : VRl} {f : Evl Wk} (h : ∀ γ b c, f γ b c = .bad) : PI X tg iter (iS T VR f) := ⟨fun pins s σ H Q I ⟨ρ, fr, c, γ, st, en, p⟩ => by rw [h] at p; exact p.elim⟩
theorem evT_bot (γ : MP.Env) (b : Nat) (c : List Cell) : evT P call (.e .bot) γ b c = .bad := by unfold evT; rw [ev_bot]; rfl
theorem evs_bot (es : Es) (γ : MP.Env) (b : Nat) (c : List Cell) : evs P call (.cons .bot es) γ b c = .bad := by unfold evs; rw [ev_bot]; rfl
theorem sj0 : ∀ es : List Expr, ∃ ts, SJ T P call W0 X es (cJ0 es) ts
  | [] => ⟨_, .nil⟩
  | e :: es => by
    obtain ⟨ts, q⟩ := sj0 es
    exact ⟨_, .cons (PE_bad ev_bot) q⟩
theorem snd0 : Snd T P call G I X 0 where
  e := fun e h => PE_bad fun γ b c => by show ev P call (cE G I 0 e) γ b c = .bad; unfold cE; exact ev_bot γ b c
  es := fun es h => by
    cases es with
    | nil => unfold cEs cJ0; exact SA_nil
    | cons _ _ => exact PA_bad fun γ b c => by unfold cEs cJ0; exact evs_bot _ γ b c
  sl := fun es h hz => by unfold cEs; exact sl0 hz
  ks := fun ks h => by
    cases ks with
    | nil => unfold cKs; exact SK_nil
    | cons _ _ => exact PK_bad fun γ b c => by unfold cKs; exact evs_bot _ γ b c
  p := fun o h => PO_bad fun γ b c => by unfold cP evP; rw [ev_bot]; rfl
  t := fun e h => PT_bad fun γ b c => by unfold cT; exact evT_bot γ b c
  va := fun es pos h => PE_bad fun γ b c => by
    cases es with
    | nil => unfold cEs cJ0 evAnd; rfl
    | cons _ _ => unfold cEs cJ0 evAnd; rw [ev_bot]; rfl
  vo := fun es pos h => PE_bad fun γ b c => by
    cases es with
    | nil => unfold cEs cJ0 evOr; rfl
    | cons _ _ => unfold cEs cJ0 evOr; rw [ev_bot]; rfl
  wa := fun es pos h => PW_bad fun γ b c => by unfold cTs evTA; exact evT_bot γ b c
  wo := fun es pos h => PW_bad fun γ b c => by unfold cTs evTO; exact evT_bot γ b c
  c := fun ifs => PTs_bad fun γ b c => by unfold cC evC; exact evT_bot γ b c
  j := fun es h => by
    cases es with
    | nil => unfold cJs; exact ⟨_, .nil⟩
    | cons e es => unfold cJs; obtain ⟨ts, q⟩ := sj0 (T := T.hide h) (P := P) (call := call) (X := X) es; exact ⟨_, .cons (PE_bad ev_bot) q⟩
  i := fun tg iter h => PI_bad fun γ b c => by unfold cI evI; rw [ev_bot]; rfl
theorem noStar1 {e : Expr} (h : noStar [e] = true) : ∀ x p, e ≠ .Starred x p := (noStar_cons h).1
theorem snd_comp (g : Good T P call G k X) (gi : GoodI T I X) {n : Nat} (sA : ∀ I X, Good T P call G k X → GoodI T I X → Snd T P call G I X n) {elt tg iter : Expr} {ifs : List Expr} {sc : Scope} {m : Bool} {t : Tg} (h : List Addr)
    (ht : cTg (I.into sc) tg = some t) (hz : (blkC I.N I.sc sc (ownL I.N sc.names) && ((tgIx t).all fun i => decide (i ∈ (ownL I.N sc.names).map (·.2))) && noSet iter) = true) :
    PE X (.ListComp elt [⟨tg, iter, ifs, 0⟩] sc pos) (tE (T.hide h) W0 (ev P call (.comp (cE G (I.into sc) n elt) t (cI G I n iter) (cC G (I.into sc) n ifs) ((ownL I.N sc.names).map (·.2)) m))) := by
  rw [Bool.and_eq_true, Bool.and_eq_true] at hz
  refine SE_comp (T := T.hide h) (VR := Rep) (fun _ _ _ _ _ z => z) g.calm gi.nd ((sA I X g gi).i tg iter h) ?_ ?_ (fun s H C cl fp => ?_) (fun s H C cl fp => ?_) (fun s H C cl fp => ?_) (noSet_ok hz.2 _)
  · rw [gi.N, gi.sc]; exact blkOk_by hz.1.1
  · intro i hi
    have := List.all_eq_true.mp hz.1.2 i hi
    simpa using this
  · exact GX_all fun h' => SV_rep (cTg_ok (X := X.blk s H sc (compEnvC sc cl C X.env) fp) (T := (T.hide h).hide h') g.K g.calm gi.blk ht)
  · exact ⟨fun pins s' σ H' Q I' ⟨hh, q⟩ => ((sA (I.into sc) _ g.blk gi.blk).c ifs).run pins s' σ H' Q I' ⟨hh, q⟩⟩
  · exact SX_all fun h' => (sA (I.into sc) _ g.blk gi.blk).e elt h'
theorem snd_dcomp (g : Good T P call G k X) (gi : GoodI T I X) {n : Nat} (sA : ∀ I X, Good T P call G k X → GoodI T I X → Snd T P call G I X n) {kx vx tg iter : Expr} {ifs : List Expr} {sc : Scope} {t : Tg} (h : List Addr)
    (ht : cTg (I.into sc) tg = some t) (hz : (blkC I.N I.sc sc (ownL I.N sc.names) && ((tgIx t).all fun i => decide (i ∈ (ownL I.N sc.names).map (·.2))) && noSet iter) = true) :
    PE X (.DictComp kx vx [⟨tg, iter, ifs, 0⟩] sc pos) (tE (T.hide h) W0 (ev P call (.dcomp (cE G (I.into sc) n kx) (cE G (I.into sc) n vx) t (cI G I n iter) (cC G (I.into sc) n ifs) ((ownL I.N sc.names).map (·.2))))) := by
  rw [Bool.and_eq_true, Bool.and_eq_true] at hz
  refine SE_dcomp (T := T.hide h) (VR := Rep) g.calm gi.nd ((sA I X g gi).i tg iter h) ?_ ?_ (fun s H C cl fp => ?_) (fun s H C cl fp => ?_) (fun s H C cl fp => ?_) (fun s H C cl fp => ?_) (noSet_ok hz.2 _)
  · rw [gi.N, gi.sc]; exact blkOk_by hz.1.1
  · intro i hi
    have := List.all_eq_true.mp hz.1.2 i hi
    simpa using this
  · exact GX_all fun h' => SV_rep (cTg_ok (X := X.blk s H sc (compEnvC sc cl C X.env) fp) (T := (T.hide h).hide h') g.K g.calm gi.blk ht)
  · exact ⟨fun pins s' σ H' Q I' ⟨hh, q⟩ => ((sA (I.into sc) _ g.blk gi.blk).c ifs).run pins s' σ H' Q I' ⟨hh, q⟩⟩
  · exact SX_all fun h' => (sA (I.into sc) _ g.blk gi.blk).e kx h'
  · exact SX_all fun h' => (sA (I.into sc) _ g.blk gi.blk).e vx h'
theorem snd_comp2 (g : Good T P call G k X) (gi : GoodI T I X) {n : Nat} (sA : ∀ I X, Good T P call G k X → GoodI T I X → Snd T P call G I X n) {elt tg iter tg2 iter2 : Expr} {ifs ifs2 : List Expr} {sc : Scope} {m : Bool} {t t2 : Tg} (h : List Addr)
    (ht : cTg (I.into sc) tg = some t) (ht2 : cTg (I.into sc) tg2 = some t2)
    (hz : (blkC I.N I.sc sc (ownL I.N sc.names) && ((tgIx t).all fun i => decide (i ∈ (ownL I.N sc.names).map (·.2))) && ((tgIx t2).all fun i => decide (i ∈ (ownL I.N sc.names).map (·.2))) && (noSet iter && noSet iter2)) = true) :
    PE X (.ListComp elt [⟨tg, iter, ifs, 0⟩, ⟨tg2, iter2, ifs2, 0⟩] sc pos) (tE (T.hide h) W0 (ev P call (.comp2 (cE G (I.into sc) n elt) t (cI G I n iter) (cC G (I.into sc) n ifs) t2 (cI G (I.into sc) n iter2) (cC G (I.into sc) n ifs2) ((ownL I.N sc.names).map (·.2)) (tgIx t2) m))) := by
  rw [Bool.and_eq_true, Bool.and_eq_true, Bool.and_eq_true, Bool.and_eq_true] at hz
  refine SE_comp2 (T := T.hide h) (VR := Rep) (VR2 := Rep) g.calm gi.nd ((sA I X g gi).i tg iter h) ?_ ?_ ?_ (fun s H C cl fp => ?_) (fun s H C cl fp => ?_) (fun s H C cl fp => ?_) (fun s H C cl fp => ?_) (fun s H C cl fp => ?_) (fun s H C cl fp => ?_) (noSet_ok hz.2.1 _) (fun env v => noSet_ok hz.2.2 env v)
  · rw [gi.N, gi.sc]; exact blkOk_by hz.1.1.1
  · intro i hi
    have := List.all_eq_true.mp hz.1.1.2 i hi
    simpa using this
  · intro i hi
    have := List.all_eq_true.mp hz.1.2 i hi
    simpa using this
  · exact GX_all fun h' => SV_rep (cTg_ok (X := X.blk s H sc (compEnvC sc cl C X.env) fp) (T := (T.hide h).hide h') g.K g.calm gi.blk ht)
  · exact ⟨fun pins s' σ H' Q I' ⟨hh, q⟩ => ((sA (I.into sc) _ g.blk gi.blk).c ifs).run pins s' σ H' Q I' ⟨hh, q⟩⟩
  · exact IX_all fun h' => (sA (I.into sc) _ g.blk gi.blk).i tg2 iter2 h'
  · exact GX_all fun h' => SV_rep (cTg_ok (X := X.blk s H sc (compEnvC sc cl C X.env) fp) (T := (T.hide h).hide h') g.K g.calm gi.blk ht2)
  · exact ⟨fun pins s' σ H' Q I' ⟨hh, q⟩ => ((sA (I.into sc) _ g.blk gi.blk).c ifs2).run pins s' σ H' Q I' ⟨hh, q⟩⟩
  · exact SX_all fun h' => (sA (I.into sc) _ g.blk gi.blk).e elt h'
theorem snd_e (g : Good T P call G k X) (gi : GoodI T I X) {n : Nat} (sA : ∀ I X, Good T P call G k X → GoodI T I X → Snd T P call G I X n) (e : Expr) (h : List Addr) : PE X e (tE (T.hide h) W0 (ev P call (cE G I (n + 1) e))) := by
  have s := sA I X g gi
  have hK : X.K = (T.hide h).K := g.K
  have hu : X.A.units + 80 < cLine := by have := g.room.un; omega
  have hr : RoomG k X.A := g.room.mono (Nat.le_succ k)
  have bad : ∀ {e : Expr}, PE X e (tE (T.hide h) W0 (ev P call .bot)) := fun {e} => PE_bad (ev_bot (P := P) (call := call))
  unfold cE
  split
  · rename_i elt tg iter ifs sc p
    cases ht : cTg (I.into sc) tg with
    | none => exact bad
    | some t =>
      dsimp only
      by_cases hz : (blkC I.N I.sc sc (ownL I.N sc.names) && ((tgIx t).all fun i => decide (i ∈ (ownL I.N sc.names).map (·.2))) && noSet iter) = true
      · rw [if_pos hz]; exact snd_comp g gi sA h ht hz
      · rw [if_neg hz]; exact bad
  · rename_i elt tg iter ifs tg2 iter2 ifs2 sc p
    cases ht : cTg (I.into sc) tg with
    | none => exact bad
    | some t =>
      cases ht2 : cTg (I.into sc) tg2 with
      | none => exact bad
      | some t2 =>
        dsimp only
        by_cases hz : (blkC I.N I.sc sc (ownL I.N sc.names) && ((tgIx t).all fun i => decide (i ∈ (ownL I.N sc.names).map (·.2))) && ((tgIx t2).all fun i => decide (i ∈ (ownL I.N sc.names).map (·.2))) && (noSet iter && noSet iter2)) = true
        · rw [if_pos hz]; exact snd_comp2 g gi sA h ht ht2 hz
        · rw [if_neg hz]; exact bad
  · rename_i kx vx tg iter ifs sc p
    cases ht : cTg (I.into sc) tg with
    | none => exact bad
    | some t =>
      dsimp only
      by_cases hz : (blkC I.N I.sc sc (ownL I.N sc.names) && ((tgIx t).all fun i => decide (i ∈ (ownL I.N sc.names).map (·.2))) && noSet iter) = true
      · rw [if_pos hz]; exact snd_dcomp g gi sA h ht hz
      · rw [if_neg hz]; exact bad
  · exact SE_int
  · exact SE_bl
  · exact SE_str
  · exact SE_non
  · rename_i x p
    cases hs : I.slot x with
    | some i =>
      obtain ⟨h1, h2, h3, h4⟩ := slot_ok hs
      exact SE_var (by rw [gi.N]; exact h4) (by rw [gi.sc]; exact isVis_ok h1) h2 h3
    | none =>
      dsimp only
      by_cases hg : isGl I.sc x = true
      · rw [if_pos hg]
        cases hc : G.con x with
        | none => exact bad
        | some d =>
          obtain ⟨u, v, h1, h2, h3⟩ := g.con x d hc
          exact SE_glob (g.glob gi hg) ⟨u, v, h1, h2, h3 h⟩ (isGl_ok hg).2
      · rw [if_neg hg]; exact bad
  · exact SE_tup (s.es _ h)
  · exact SE_lst (s.es _ h)
  · exact SE_bin hK (s.e _ h) (s.e _ h)
  · exact SE_neg (s.e _ h)
  · exact SE_nt (s.e _ h)
  · exact SE_an (s.va _ _ h)
  · exact SE_orr (s.vo _ _ h)
  · exact SE_ite (s.t _ h) (s.e _ h) (s.e _ h)
  · rename_i a op b p
    by_cases hm : behindInMarks op b = true
    · rw [if_pos hm]; exact bad
    · rw [if_neg hm]
      have hm' : behindInMarks op b = false := by simpa using hm
      cases hk : kdOf G I b with
      | none => exact SE_cmp (fun op => g.op X (Sim.refl X) h op) (s.e _ h) (s.e _ h) hm'
      | some kvs =>
        obtain ⟨d, D, hb⟩ := g.kdx gi hk
        cases op <;> first | exact SE_kin (s.e _ h) (D.hide h) hb hm' | exact SE_knin (s.e _ h) (D.hide h) hb hm' | exact bad
  · rename_i a o1 o2 b d p
    by_cases hm : lastMarks [o1, o2] [b, d] = true
    · rw [if_pos hm]; exact bad
    · rw [if_neg hm]
      exact SE_chain hK hu (s.e _ h) (s.e _ h) (s.e _ h) (by simpa using hm)
  · exact SE_slc hK (s.e _ h) (s.p _ h) (s.p _ h)
  · rename_i a b p _
    by_cases hm : plainB b = true
    · rw [if_pos hm]
      cases hk : kdOf G I a with
      | none => exact SE_idx hK hu (s.e _ h) (s.e _ h) (plainB_ok hm)
      | some kvs =>
        obtain ⟨d, D, hb⟩ := g.kdx gi hk
        exact SE_kix (s.e _ h) (D.hide h) hb (plainB_ok hm)
    · rw [if_neg hm]; exact bad
  · rename_i o f p
    by_cases hm : noSuper o = true
    · rw [if_pos hm]; exact SE_att hK (g.ob h) g.room (s.e _ h) (noSuper_ok hm _ _ _)
    · rw [if_neg hm]; exact bad
  · rename_i f p1 a as p
    cases hs : I.slot f with
    | some i =>
      dsimp only
      by_cases hz : noStar (a :: as) = true
      · rw [if_pos hz]
        obtain ⟨q1, q2, q3, q4⟩ := slot_ok hs
        exact SE_callv (T := T.hide h) (fun f hf => by obtain ⟨fa, fd, ps, hF⟩ := g.any f hf; exact ⟨fa, fd, ps, hF h⟩) (g.lm X (Sim.refl X) h) hr (by rw [gi.N]; exact q4) (by rw [gi.sc]; exact isVis_ok q1) q2 q3 (s.es _ h) hz
      · rw [if_neg hz]; exact bad
    | none =>
    dsimp only
    by_cases hz : (isGl I.sc f && noStar (a :: as)) = true
    · rw [if_pos hz]
      rw [Bool.and_eq_true] at hz
      cases hf : G.fn f with
      | some q =>
        dsimp only
        cases hsl : splitLam (a :: as) with
        | some r =>
          obtain ⟨front, params, body, lsc⟩ := r
          dsimp only
          cases hpar : parB params with
          | none => exact bad
          | some lps =>
            dsimp only
            by_cases hlb : lamB I front lsc lps = true
            · rw [if_pos hlb]
              cases hix : ixs I.N (frees lsc) with
              | none => exact bad
              | some is =>
                dsimp only
                unfold lamB at hlb
                rw [Bool.and_eq_true, Bool.and_eq_true, Bool.and_eq_true, List.all_eq_true] at hlb
                obtain ⟨w1, w2, w3, w4⟩ := hlb
                obtain ⟨lpos, hes⟩ := splitLam_ok hsl
                obtain ⟨c0, P0, t1, t2, t3, t4⟩ := gi.lam w1
                obtain ⟨fa, fd, ps, h1, h2, h3⟩ := g.fn f q hf
                rw [hes]
                refine SE_calll (T := T.hide h) (N := lamN I.N lps (frees lsc)) (fv := frees lsc) (h2 h) hr (g.glob gi hz.1) h1 (isGl_ok hz.1).2 (s.sl front h w2) w2 t1 t2 t3 t4 hpar (NdefX.nscope_by w3) ?_ (fun y hy => ?_) (by rw [gi.N]; exact ixs_ok hix)
                · show T.lp params body lsc lps (frees lsc) _ _
                  rw [g.lp]
                  exact ⟨lamN I.N lps (frees lsc), n, hpar, w3, rfl, rfl⟩
                · have w5 := w4 y hy
                  rw [Bool.and_eq_true] at w5
                  have w6 : X.env.scope.names.lookup y = some .cell := by
                    rw [gi.sc]
                    have w7 := w5.1
                    cases hq : I.sc.names.lookup y with
                    | none => rw [hq] at w7; cases w7
                    | some kk => rw [hq] at w7; cases kk <;> first | rfl | cases w7
                  refine ⟨w6, ?_⟩
                  rcases (gi.loc y w5.2).2 with z | z
                  · exact z
                  · rw [w6] at z; cases z
            · rw [if_neg hlb]; exact bad
        | none =>
        dsimp only
        cases hd : G.dv q (as.length + 1) with
        | none => exact bad
        | some dv =>
          obtain ⟨fa, fd, ps, h1, h2, h3⟩ := g.fn f q hf
          exact SE_call (h2 h) (h3 _ dv hd h) hr (g.glob gi hz.1) h1 (isGl_ok hz.1).2 (s.es _ h) hz.2
      | none =>
       dsimp only
       cases hc : G.cl f with
       | some cn =>
        dsimp only
        cases hi : G.init cn with
        | none => exact bad
        | some q =>
          dsimp only
          cases hd : G.dv q (as.length + 2) with
          | none => exact bad
          | some dv =>
            obtain ⟨C, h1, h2⟩ := g.cl f cn hc
            obtain ⟨h3, h4, C', fa, fd, ps, h5, h6, h7, h8⟩ := g.mkc cn q hi
            rw [h2] at h5; cases h5
            exact SE_mk (T := T.hide h) h2 h3 h4 h6 (h7 h) (h8 _ dv hd h) g.room (g.glob gi hz.1) h1 (isGl_ok hz.1).2 (s.es _ h) hz.2
       | none =>
        dsimp only
        by_cases hfr : G.free f = true
        · rw [if_pos hfr]
          obtain ⟨h1, h2⟩ := g.free f hfr
          by_cases hi : f = "isinstance"
          · rw [if_pos hi]
            subst hi
            match as, hz with
            | [t], hz =>
              dsimp only
              cases ht : cTy G I t with
              | none => exact bad
              | some ty =>
                obtain ⟨v, hv⟩ := cTy_ok g gi ht h
                exact SE_isi hK g.ty.hide (g.glob gi hz.1) h1 (s.e _ h) (noStar_cons hz.2).1 hv
            | [], hz => exact bad
            | _ :: _ :: _, hz => exact bad
          · rw [if_neg hi]
            by_cases hlm : f = "list" ∧ G.mt p = true ∧ as = []
            · rw [if_pos hlm]
              obtain ⟨rfl, _, rfl⟩ := hlm
              exact SE_lsm hK (g.glob gi hz.1) h1 (s.e _ h) hz.2
            rw [if_neg hlm]
            cases hb : biOf f with
            | none => exact bad
            | some b => exact SE_blt (fun f => g.bi X (Sim.refl X) h f) (biOf_ok hb) (g.glob gi hz.1) h1 (s.es _ h) hz.2
        · rw [if_neg hfr]; exact bad
    · rw [if_neg hz]; exact bad
  · exact pe_joined1 (s.e _ h)
  · obtain ⟨ts, q⟩ := s.j _ h
    exact SE_fstr q
  · rename_i a cv sp p
    by_cases hcv : cv = -1
    · rw [if_pos hcv]
      subst hcv
      cases sp with
      | none => exact SE_fmt (s.e _ h)
      | some _ => exact bad
    · rw [if_neg hcv]; exact bad
  · rename_i f p1 p
    cases hsl : I.slot f with
    | some i =>
      obtain ⟨q1, q2, q3, q4⟩ := slot_ok hsl
      exact SE_callv0 (T := T.hide h) (fun f hf => by obtain ⟨fa, fd, ps, hF⟩ := g.any f hf; exact ⟨fa, fd, ps, hF h⟩) (g.lm X (Sim.refl X) h) hr (by rw [gi.N]; exact q4) (by rw [gi.sc]; exact isVis_ok q1) q2 q3
    | none =>
    dsimp only
    by_cases hz : isGl I.sc f = true
    · rw [if_pos hz]
      cases hf : G.fn f with
      | none =>
        dsimp only
        cases hc : G.cl f with
        | none => exact bad
        | some cn =>
          dsimp only
          by_cases h0 : G.ini0 cn = true
          · rw [if_pos h0]
            obtain ⟨C, h1, h2⟩ := g.cl f cn hc
            obtain ⟨h3, h4, C', h5, h6⟩ := g.mk0 cn h0
            rw [h2] at h5; cases h5
            exact SE_mk0 (T := T.hide h) h2 h3 h4 h6 (g.glob gi hz) h1 (isGl_ok hz).2
          · rw [if_neg h0]; exact bad
      | some q =>
        dsimp only
        cases hd : G.dv q 0 with
        | none => exact bad
        | some dv =>
          obtain ⟨fa, fd, ps, h1, h2, h3⟩ := g.fn f q hf
          exact SE_call0 (h2 h) (h3 _ dv hd h) hr (g.glob gi hz) h1 (isGl_ok hz).2
    · rw [if_neg hz]; exact bad
  · rename_i f p1 es kw kws p
    cases hn : kwNames (kw :: kws) with
    | none => exact bad
    | some nn =>
      dsimp only
      by_cases hz : (isGl I.sc f && (noStar es && decide ((cKs G I n (kw :: kws)).len = nn.length))) = true
      · rw [if_pos hz]
        rw [Bool.and_eq_true, Bool.and_eq_true, decide_eq_true_eq] at hz
        have he : es = [] → cEs G I n es = .nil := fun z => by rw [z]; exact cEs_nil n
        cases hf : G.fn f with
        | some q =>
          obtain ⟨fa, fd, ps, h1, h2, h3⟩ := g.fnk f q hf
          exact SE_callk (T := T.hide h) (h2 h) (h3.hide h) rfl hr (g.glob gi hz.1) h1 (isGl_ok hz.1).2 (s.es es h) (s.ks _ h) he hz.2.2 hz.2.1 hn
        | none =>
          dsimp only
          cases hc : G.cl f with
          | none => exact bad
          | some cn =>
            dsimp only
            cases hi : G.init cn with
            | none => exact bad
            | some q =>
              obtain ⟨C, h1, h2⟩ := g.cl f cn hc
              obtain ⟨h3, h4, C', fa, fd, ps, h5, h6, h7, h8⟩ := g.mkk cn q hi
              rw [h2] at h5; cases h5
              exact SE_mkk (T := T.hide h) h2 h3 h4 h6 (h7 h) (h8.hide h) rfl g.room (g.glob gi hz.1) h1 (isGl_ok hz.1).2 (s.es es h) (s.ks _ h) he hz.2.2 hz.2.1 hn
      · rw [if_neg hz]; exact bad
  · rename_i o m ap es kw kws p
    cases hn : kwNames (kw :: kws) with
    | none => exact bad
    | some nn =>
      dsimp only
      by_cases hz : (noSuper o && (noStar es && ((ap.endLine == p.line) && (decide (es.length + kws.length < 28) && decide ((cKs G I n (kw :: kws)).len = nn.length))))) = true
      · rw [if_pos hz]
        rw [Bool.and_eq_true, Bool.and_eq_true, Bool.and_eq_true, Bool.and_eq_true, decide_eq_true_eq, decide_eq_true_eq] at hz
        obtain ⟨z1, z2, z3, z4, z5⟩ := hz
        have he : es = [] → cEs G I n es = .nil := fun z => by rw [z]; exact cEs_nil n
        exact SE_mthk (T := T.hide h) hK (g.mtk h) rfl hr (s.e o h) (s.es es h) (s.ks _ h) he z5 z2 hn (meth_evalK (pos := p) (apos := ap) z1 z2 hn z3 (by simp only [List.length_cons]; omega))
      · rw [if_neg hz]; exact bad
  · rename_i o m ap p
    by_cases hz : (noSuper o && (ap.endLine == p.line)) = true
    · rw [if_pos hz]
      rw [Bool.and_eq_true] at hz
      exact SE_mth0 hK (g.ob h) hr (s.e _ h) (meth_eval hz.1 rfl hz.2 (by decide))
    · rw [if_neg hz]; exact bad
  · rename_i o m ap a as p
    by_cases hz : (noSuper o && (noStar (a :: as) && ((ap.endLine == p.line) && decide (as.length < 29)))) = true
    · rw [if_pos hz]
      rw [Bool.and_eq_true, Bool.and_eq_true, Bool.and_eq_true, decide_eq_true_eq] at hz
      obtain ⟨z1, z2, z3, z4⟩ := hz
      have h30 : (a :: as).length < 30 := by simp; omega
      have own := SE_mth (T := T.hide h) (W := W0) hK (g.ob h) hr (m := m) (s.e o h) (s.es (a :: as) h) z2 (meth_eval (pos := p) (apos := ap) z1 z2 z3 h30)
      match as, own, z2 with
      | [], own, z2 =>
        dsimp only
        by_cases h1 : m = "append"
        · rw [if_pos h1]; subst h1
          exact SE_app hK (s.e _ h) (s.e _ h) (noStar1 z2) (fun f env w => noSuper_ok z1 f env w) z3
        · rw [if_neg h1]
          by_cases h2 : m = "pop"
          · rw [if_pos h2]; subst h2
            exact SE_popi hK (s.e _ h) (s.e _ h) (noStar1 z2) (fun f env w => noSuper_ok z1 f env w) z3
          · rw [if_neg h2]; exact own
      | b :: bs, own, z2 => exact own
    · rw [if_neg hz]; exact bad
  · exact bad
theorem snd_s (g : Good T P call G k X) (gi : GoodI T I X) {n : Nat} (sA : ∀ I X, Good T P call G k X → GoodI T I X → Snd T P call G I X n) : Snd T P call G I X (n + 1) := by
  have s := sA I X g gi
  exact {
  e := snd_e g gi sA
  es := fun es h => by
    cases es with
    | nil => unfold cEs; exact SA_nil
    | cons e es =>
      unfold cEs
      by_cases hz : noStar [e] = true
      · rw [if_pos hz]; exact SA_cons (s.e e h) (s.es es h) (noStar1 hz)
      · rw [if_neg hz]; exact PA_bad (evs_bot _)
  sl := fun es h hz => by
    cases es with
    | nil => unfold cEs; exact .nil
    | cons e es =>
      unfold cEs
      have n1 : noStar [e] = true := by
        obtain ⟨k1, k2⟩ := noStar_cons hz
        cases e <;> first | rfl | exact absurd rfl (k1 _ _)
      rw [if_pos n1]
      exact .cons (s.e e h) (noStar_cons hz).1 (s.sl es h (noStar_cons hz).2)
  ks := fun ks h => by
    cases ks with
    | nil => unfold cKs; exact SK_nil
    | cons e es =>
      obtain ⟨nm, e, kp⟩ := e
      unfold cKs
      exact SK_cons (s.e e h) (s.ks es h)
  p := fun o h => by
    cases o with
    | none => unfold cP; exact SP_none
    | some e => unfold cP; exact SP_some (s.e e h)
  t := fun e h => by
    unfold cT
    split
    · exact ST_nt (s.t _ h)
    · exact ST_and (s.wa _ _ h)
    · exact ST_or (s.wo _ _ h)
    · rename_i a op b p
      by_cases hm : behindInMarks op b = true
      · rw [if_pos hm]; exact PT_bad evT_bot
      · rw [if_neg hm]
        have hm' : behindInMarks op b = false := by simpa using hm
        cases hk : kdOf G I b with
        | none => exact ST_cmp (fun op => g.op X (Sim.refl X) h op) (s.e _ h) (s.e _ h) hm'
        | some kvs =>
          obtain ⟨d, D, hb⟩ := g.kdx gi hk
          cases op <;> first | exact ST_kin (s.e _ h) (D.hide h) hb hm' | exact ST_knin (s.e _ h) (D.hide h) hb hm' | exact PT_bad evT_bot
    · rename_i a o1 o2 b d p
      by_cases hm : lastMarks [o1, o2] [b, d] = true
      · rw [if_pos hm]; exact PT_bad evT_bot
      · rw [if_neg hm]
        have hu : X.A.units + 80 < cLine := by have := g.room.un; omega
        exact ST_chain (T := T.hide h) g.K hu (s.e _ h) (s.e _ h) (s.e _ h) (by simpa using hm)
    · by_cases hv : valB e = true
      · rw [if_pos hv]; exact ST_tv (g.tr X (Sim.refl X) h) (s.e _ h) (valB_ok hv _)
      · rw [if_neg hv]; exact PT_bad evT_bot
  va := fun es pos h => by
    match es with
    | [] => exact PE_bad fun γ b c => by unfold cEs evAnd; rfl
    | [a] =>
      unfold cEs
      by_cases hz : noStar [a] = true
      · rw [if_pos hz]
        have e0 : cEs G I n [] = .nil := by cases n <;> (unfold cEs; rfl)
        rw [e0]
        exact SV_one (.inl rfl) (s.e a h)
      · rw [if_neg hz]; exact PE_bad fun γ b c => by unfold evAnd; rw [ev_bot]; rfl
    | a :: b :: es =>
      unfold cEs
      by_cases hz : noStar [a] = true
      · rw [if_pos hz]
        have hv := s.va (b :: es) pos h
        cases hq : cEs G I n (b :: es) with
        | nil => exfalso; cases n <;> (unfold cEs at hq; first | cases hq | (split at hq <;> cases hq))
        | cons y ys => rw [hq] at hv; exact SV_and (s.e a h) hv
      · rw [if_neg hz]; exact PE_bad fun γ b c => by unfold evAnd; rw [ev_bot]; rfl
  vo := fun es pos h => by
    match es with
    | [] => exact PE_bad fun γ b c => by unfold cEs evOr; rfl
    | [a] =>
      unfold cEs
      by_cases hz : noStar [a] = true
      · rw [if_pos hz]
        have e0 : cEs G I n [] = .nil := by cases n <;> (unfold cEs; rfl)
        rw [e0]
        exact SV_one (.inr rfl) (s.e a h)
      · rw [if_neg hz]; exact PE_bad fun γ b c => by unfold evOr; rw [ev_bot]; rfl
    | a :: b :: es =>
      unfold cEs
      by_cases hz : noStar [a] = true
      · rw [if_pos hz]
        have hv := s.vo (b :: es) pos h
        cases hq : cEs G I n (b :: es) with
        | nil => exfalso; cases n <;> (unfold cEs at hq; first | cases hq | (split at hq <;> cases hq))
        | cons y ys => rw [hq] at hv; exact SV_or (s.e a h) hv
      · rw [if_neg hz]; exact PE_bad fun γ b c => by unfold evOr; rw [ev_bot]; rfl
  wa := fun es pos h => by
    match es with
    | [] => exact PW_bad fun γ b c => by unfold cTs evTA; exact evT_bot _ _ _
    | [a] => unfold cTs; exact SW_and1 (s.t a h)
    | a :: b :: es => unfold cTs; exact SW_and (s.t a h) (s.wa (b :: es) pos h)
  wo := fun es pos h => by
    match es with
    | [] => exact PW_bad fun γ b c => by unfold cTs evTO; exact evT_bot _ _ _
    | [a] => unfold cTs; exact SW_or1 (s.t a h)
    | a :: b :: es => unfold cTs; exact SW_or (s.t a h) (s.wo (b :: es) pos h)
  j := fun es h => by
    cases es with
    | nil => unfold cJs; exact ⟨_, .nil⟩
    | cons e es => unfold cJs; obtain ⟨ts, q⟩ := s.j es h; exact ⟨_, .cons (s.e e h) q⟩
  c := fun ifs => by
    match ifs with
    | [] => unfold cC; exact ST_none
    | [e] => unfold cC; exact ST_some fun h => s.t e h
    | _ :: _ :: _ => unfold cC; exact PTs_bad fun γ b c => by unfold evC; exact evT_bot γ b c
  i := fun tg iter h => by
    have hK : X.K = (T.hide h).K := g.K
    have bad : ∀ {iter : Expr}, PI X tg iter (iS (T.hide h) Rep (evI P call (.seq .bot))) := fun {iter} => PI_bad fun γ b c => by unfold evI; rw [ev_bot]; rfl
    unfold cI
    split
    · rename_i f p1 a p2
      by_cases hf : f = "range"
      · rw [if_pos hf]
        subst hf
        by_cases hz : (isGl I.sc "range" && (G.free "range" && noStar [a])) = true
        · rw [if_pos hz]
          rw [Bool.and_eq_true, Bool.and_eq_true] at hz
          exact SI_rng1 (g.glob gi hz.1) (g.free _ hz.2.1).1 (s.e a h) (noStar1 hz.2.2)
        · rw [if_neg hz]; exact bad
      · rw [if_neg hf]; exact SI_seq hK (s.e _ h)
    · rename_i f p1 a b p2
      by_cases hf : f = "range"
      · rw [if_pos hf]
        subst hf
        by_cases hz : (isGl I.sc "range" && (G.free "range" && noStar [a, b])) = true
        · rw [if_pos hz]
          rw [Bool.and_eq_true, Bool.and_eq_true] at hz
          exact SI_rng2 (g.glob gi hz.1) (g.free _ hz.2.1).1 (s.e a h) (s.e b h) (noStar_cons hz.2.2).1 (noStar1 (noStar_cons hz.2.2).2)
        · rw [if_neg hz]; exact bad
      · rw [if_neg hf]; exact SI_seq hK (s.e _ h)
    · exact SI_seq hK (s.e _ h) }
theorem snd_all : ∀ (n : Nat) (I : Inf) (X : Cx), Good T P call G k X → GoodI T I X → Snd T P call G I X n
  | 0, _, _, _, _ => snd0
  | n + 1, _, _, g, gi => snd_s g gi (snd_all n)
end
end MP
end
section
set_option maxRecDepth 100000
set_option maxHeartbeats 2000000
namespace MP
open PySem PySem.Spec PyProof.Rows L2

def notComp : Expr → Bool
  | .ListComp _ _ _ _ => false
  | .SetComp _ _ _ _ => false
  | .DictComp _ _ _ _ _ => false
  | _ => true
/-- a list comprehension for a local name: stored from within -/
def swB (sc : Scope) (x : Str) (line : Nat) (vline : Nat) (own : Scope) : Bool := (sc.names.lookup x == some .local) && (line == vline) && !(own.names.any fun (n, k) => n == x && (k == .local || k == .cell))
def isTup : Expr → Bool
  | .Tuple _ _ _ => true
  | _ => false
/-- what enumerate walks -/
def isEnm : Expr → Option Expr
  | .Call (.Name f _) [a] [] _ => if f = "enumerate" then some a else none
  | _ => none
def sbot : S := .rse Str.empty .nil
def parOk (sc : Scope) (ts vs : List Expr) : Bool :=
  !(vs.any fun | .Starred .. => true | _ => false) && !(vs.all (foldedForSure 8)) && !(vs.all (constantsAlone 8)) && noStar vs
/-- a name among the targets that is no plain local: nothing is swapped -/
def cellB (sc : Scope) (ts : List Expr) : Bool := ts.any fun
  | .Name x _ => !(sc.names.lookup x == some .local)
  | _ => false
/-- a local name, on that line -/
def nmL (I : Inf) (line : Nat) : Expr → Option (Nat × Str)
  | .Name x p => if isLocal I.sc x && (p.line == line) then (match I.slot x with
    | some i => some (i, x)
    | none => none) else none
  | _ => none
section
variable (G : Gb) (I : Inf)
/-- an assignment of one thing -/
def cA (n : Nat) (tg e : Expr) (pos : Pos) : S :=
  match tg with
  | .Attribute o f _ => .seta (cE G I n o) f (cE G I n e)
  | .Subscript o i _ => if plainB i then .seti (cE G I n o) (cE G I n i) (cE G I n e) else sbot
  | .Name x py => (match e with
    | .ListComp elt [⟨tg2, iter, ifs, 0⟩] sc p => if swB I.sc x py.line p.line sc then
        (match cTg (I.into sc) tg2, I.slot x with
        | some t, some i => if blkC I.N I.sc sc (ownL I.N sc.names) && ((tgIx t).all fun i => decide (i ∈ (ownL I.N sc.names).map (·.2))) && noSet iter then
            .asg (.nm i) (.comp (cE G (I.into sc) n elt) t (cI G I n iter) (cC G (I.into sc) n ifs) ((ownL I.N sc.names).map (·.2)) (G.mt p)) else sbot
        | _, _ => sbot) else sbot
    | .ListComp elt [⟨tg2, iter, ifs, 0⟩, ⟨tg3, iter3, ifs3, 0⟩] sc p => if swB I.sc x py.line p.line sc then
        (match cTg (I.into sc) tg2, cTg (I.into sc) tg3, I.slot x with
        | some t, some t3, some i => if blkC I.N I.sc sc (ownL I.N sc.names) && ((tgIx t).all fun i => decide (i ∈ (ownL I.N sc.names).map (·.2))) && ((tgIx t3).all fun i => decide (i ∈ (ownL I.N sc.names).map (·.2))) && (noSet iter && noSet iter3) then
            .asg (.nm i) (.comp2 (cE G (I.into sc) n elt) t (cI G I n iter) (cC G (I.into sc) n ifs) t3 (cI G (I.into sc) n iter3) (cC G (I.into sc) n ifs3) ((ownL I.N sc.names).map (·.2)) (tgIx t3) (G.mt p)) else sbot
        | _, _, _ => sbot) else sbot
    | e => if notComp e then (match cTg I (.Name x py) with
      | some t => .asg t (cE G I n e)
      | none => sbot) else sbot)
  | .Tuple ts k tp => if notComp e then (match e with
    | .Tuple vs _ _ => if cellB I.sc ts then (match cTg I (.Tuple ts k tp) with
      | some t => .asg t (cE G I n e)
      | none => sbot) else if parOk I.sc ts vs then (match ts, vs with
      | [t1, t2], [v1, v2] => (match nmL I t1.pos.line t1, nmL I t1.pos.line t2 with
        | some (i, x), some (j, y) => if x ≠ y then .par [i, j] (cEs G I n [v1, v2]) else sbot
        | _, _ => sbot)
      | [t1, t2, t3], [v1, v2, v3] => (match nmL I t1.pos.line t1, nmL I t1.pos.line t2, nmL I t1.pos.line t3 with
        | some (i, x), some (j, y), some (l, z) => if x ≠ y ∧ x ≠ z ∧ y ≠ z then .par [i, j, l] (cEs G I n [v1, v2, v3]) else sbot
        | _, _, _ => sbot)
      | _, _ => sbot) else sbot
    | e => (match cTg I (.Tuple ts k tp) with
      | some t => .asg t (cE G I n e)
      | none => sbot)) else sbot
  | _ => sbot
mutual
def cS : Nat → Stmt → S
  | 0, _ => sbot
  | n + 1, s => match s with
    | .Pass _ => .pas
    | .Break _ => .brk
    | .Continue _ => .cnt
    | .Return none _ => .ret (.con .non)
    | .Return (some e) _ => .ret (cE G I n e)
    | .Expr (.Constant (.str _) _ _) _ => .pas
    | .Expr e _ => if notComp e then .expr (cE G I n e) else sbot
    | .If c a b _ => .ife (cT G I n c) (cSs n a) (cSs n b)
    | .For tg iter body [] _ => (match isEnm iter, tg with
      | some a, .Tuple ts _ _ => if isGl I.sc "enumerate" && (G.free "enumerate" && noStar [a]) then (match cTgs I ts with
        | some is => .for (.tp is) (.enm (cE G I n a)) (cSs n body)
        | none => sbot) else sbot
      | _, _ => (match cTg I tg with
        | some t => if noSet iter then .for t (cI G I n iter) (cSs n body) else sbot
        | none => sbot))
    | .AugAssign (.Name x _) op e _ => if isLoc I.st x then (match I.slot x, op with
      | some i, .Add => .aug i .Add (cE G I n e)
      | some i, .Sub => .aug i .Sub (cE G I n e)
      | _, _ => sbot) else sbot
    | .Assign [tg] e pos => cA G I n tg e pos
    | _ => sbot
def cSs : Nat → List Stmt → Ss
  | 0, _ => .cons sbot .nil
  | _ + 1, [] => .nil
  | n + 1, s :: ss => .cons (cS n s) (cSs n ss)
end
end
section
variable {T : Tab} {P : Prog} {call : Call} {G : Gb} {I : Inf} {k : Nat} {X : Cx} {a b d e o : Expr} {pos : Pos}
theorem evS_bot (γ : MP.Env) (b : Nat) (c : List Cell) : evS P call sbot γ b c = .bad := by unfold sbot evS; rfl
theorem PS_bot {s : Stmt} : PS X s (tS T (evS P call sbot)) := SS_bad evS_bot
theorem notComp_ok {e : Expr} (h : notComp e = true) (t : Option Expr) (l : Nat) (env : PySem.Env) : swapsWith e t l env = pure false := by
  cases e <;> first | rfl | cases h
theorem isLocal_ok {sc : Scope} {x : Str} (h : isLocal sc x = true) : sc.names.lookup x = some .local := by
  unfold isLocal at h
  cases q : sc.names.lookup x with
  | none => rw [q] at h; cases h
  | some kk => rw [q] at h; cases kk <;> first | rfl | cases h
theorem nmL_ok {t : Expr} {line : Nat} {i : Nat} {x : Str} (h : nmL I line t = some (i, x)) : ∃ p, t = .Name x p ∧ I.sc.names.lookup x = some .local ∧ p.line = line ∧ I.N[i]? = some x := by
  cases t with
  | Name y p =>
    have h1 : (if isLocal I.sc y && (p.line == line) then (match I.slot y with
      | some i => some (i, y)
      | none => none) else none) = some (i, x) := h
    by_cases hz : (isLocal I.sc y && (p.line == line)) = true
    · rw [if_pos hz] at h1
      rw [Bool.and_eq_true] at hz
      cases hs : I.slot y with
      | none => rw [hs] at h1; cases h1
      | some j =>
        rw [hs] at h1; cases h1
        exact ⟨p, rfl, isLocal_ok hz.1, by simpa using hz.2, (slot_ok hs).2.2.2⟩
    · rw [if_neg hz] at h1; cases h1
  | _ => cases h
theorem swapped_none {tg : Expr} {env : PySem.Env} (h : isTup tg = false ∨ isTup e = false) (hl : ∀ ts p, tg ≠ .List ts p) : swappedStores [tg] e env = pure none := by
  unfold swappedStores
  cases tg <;> cases e <;> first | rfl | exact absurd rfl (hl _ _) | (rcases h with h | h <;> cases h)
/-- a def's own block: nothing leaves it -/
structure GoodF (T : Tab) (I : Inf) (X : Cx) : Prop where
  gi : GoodI T I X
  hp : PassesOwn (model X.prog X.w) X.A X.env X.xe
  kind : X.env.scope.kind = .function
  st : I.st = I.sc
theorem GoodF.block (f : GoodF T I X) : X.env.blockKind = .function := by
  unfold Env.blockKind
  rw [f.kind]
  rfl
theorem swB_ok (f : GoodF T I X) {elt : Expr} {sc : Scope} {p : Pos} {x : Str} {py : Pos} {l : Nat} {gs : List Comprehension} (h : swB I.sc x py.line p.line sc = true) :
    swapsWith (.ListComp elt gs sc p) (some (.Name x py)) l X.env = pure true ∧ X.env.scope.names.lookup x = some .local := by
  unfold swB at h
  rw [Bool.and_eq_true, Bool.and_eq_true] at h
  have h1 : I.sc.names.lookup x = some .local := by simpa using h.1.1
  have h2 : X.env.scope.names.lookup x = some .local := by rw [f.gi.sc]; exact h1
  refine ⟨?_, h2⟩
  have h3 : X.env.kindOf x = some .local := h2
  show (pure (X.env.blockKind == .function && X.env.kindOf x == some .local && py.line == (Expr.ListComp elt gs sc p).pos.line && !(sc.names.any fun (n, k) => n == x && (k == .local || k == .cell))) : Sem Bool) = pure true
  have h4 : (Expr.ListComp elt gs sc p).pos.line = p.line := rfl
  rw [f.block, h3, h4, h.1.2, h.2]
  rfl
theorem par_parts {sc : Scope} {ts vs : List Expr} (h : parOk sc ts vs = true) : (vs.any fun | .Starred .. => true | _ => false) = false ∧ vs.all (foldedForSure 8) = false ∧ vs.all (constantsAlone 8) = false ∧ noStar vs = true := by
  unfold parOk at h
  simp only [Bool.and_eq_true, Bool.not_eq_true'] at h
  exact ⟨h.1.1.1, h.1.1.2, h.1.2, h.2⟩
theorem swapped2 (f : GoodF T I X) {x y : Str} {px py pt pt2 : Pos} {kt k2 : Nat} (hx : X.env.kindOf x = some .local) (hy : X.env.kindOf y = some .local) (hl : py.line = px.line) (hxy : x ≠ y) (hp : parOk I.sc [.Name x px, .Name y py] [a, b] = true) :
    swappedStores [.Tuple [.Name x px, .Name y py] kt pt] (.Tuple [a, b] k2 pt2) X.env = pure (some [x, y]) := by
  obtain ⟨h1, h2, h3, _⟩ := par_parts hp
  have hd : [x, y].eraseDups = [x, y] := by
    have : (y == x) = false := by simpa using Ne.symm hxy
    simp [List.eraseDups_cons, this]
  have hn : ([Expr.Name x px, Expr.Name y py].filterMap fun
    | .Name id pos => if X.env.kindOf id == some .local && pos.line == px.line then some id else none
    | _ => none) = [x, y] := by
    simp [hx, hy, hl]
  have key : ∀ l : List Str, l = [x, y] → ¬ ((l.length != 2 || l.eraseDups.length != l.length) = true) := fun l e => by
    subst e
    rw [hd]
    simp
  unfold swappedStores
  refine (if_neg ?_).trans ((if_neg ?_).trans ((if_neg ?_).trans ((if_neg ?_).trans ((if_neg ?_).trans ?_))))
  · rw [f.block]; exact fun w => nomatch (show (false : Bool) = true from w)
  · intro z; exact absurd (h1.symm.trans z) (by decide)
  · exact key _ hn
  · intro z; exact absurd (h2.symm.trans z) (by decide)
  · intro z; exact absurd (h3.symm.trans z) (by decide)
  · exact congrArg (fun l => (pure (some l) : Sem (Option (List Str)))) hn
theorem swapped3 (f : GoodF T I X) {x y z : Str} {px py pz pt pt2 : Pos} {kt k2 : Nat} (hx : X.env.kindOf x = some .local) (hy : X.env.kindOf y = some .local) (hz : X.env.kindOf z = some .local) (hl : py.line = px.line) (hl2 : pz.line = px.line) (hxy : x ≠ y) (hxz : x ≠ z) (hyz : y ≠ z)
    (hp : parOk I.sc [.Name x px, .Name y py, .Name z pz] [a, b, d] = true) :
    swappedStores [.Tuple [.Name x px, .Name y py, .Name z pz] kt pt] (.Tuple [a, b, d] k2 pt2) X.env = pure (some [x, y, z]) := by
  obtain ⟨h1, h2, h3, _⟩ := par_parts hp
  have hd : [x, y, z].eraseDups = [x, y, z] := by
    have e1 : (y == x) = false := by simpa using Ne.symm hxy
    have e2 : (z == x) = false := by simpa using Ne.symm hxz
    have e3 : (z == y) = false := by simpa using Ne.symm hyz
    simp [List.eraseDups_cons, e1, e2, e3]
  have hn : ([Expr.Name x px, Expr.Name y py, Expr.Name z pz].filterMap fun
    | .Name id pos => if X.env.kindOf id == some .local && pos.line == px.line then some id else none
    | _ => none) = [x, y, z] := by
    simp [hx, hy, hz, hl, hl2]
  have key : ∀ l : List Str, l = [x, y, z] → ¬ ((l.length != 3 || l.eraseDups.length != l.length) = true) := fun l e => by
    subst e
    rw [hd]
    simp
  unfold swappedStores
  refine (if_neg ?_).trans ((if_neg ?_).trans ((if_neg ?_).trans ((if_neg ?_).trans ((if_neg ?_).trans ?_))))
  · rw [f.block]; exact fun w => nomatch (show (false : Bool) = true from w)
  · intro w; exact absurd (h1.symm.trans w) (by decide)
  · exact key _ hn
  · intro w; exact absurd (h2.symm.trans w) (by decide)
  · intro w; exact absurd (h3.symm.trans w) (by decide)
  · exact congrArg (fun l => (pure (some l) : Sem (Option (List Str)))) hn
theorem kind_of (f : GoodF T I X) {x : Str} (h : I.sc.names.lookup x = some .local) : X.env.kindOf x = some .local := by
  show X.env.scope.names.lookup x = _
  rw [f.gi.sc]; exact h
theorem idx_ne {N : List Str} {i j : Nat} {x y : Str} (h1 : N[i]? = some x) (h2 : N[j]? = some y) (h : x ≠ y) : i ≠ j := fun z => by
  rw [z, h2] at h1
  exact h (Option.some.inj h1).symm
theorem filterMap_lt {α β : Type} (g : α → Option β) : ∀ {l : List α}, (∃ t ∈ l, g t = none) → (l.filterMap g).length < l.length
  | [], h => by obtain ⟨t, h, _⟩ := h; cases h
  | a :: l, h => by
    rw [List.filterMap_cons]
    cases q : g a with
    | none =>
      have := List.length_filterMap_le g l
      simp only [List.length_cons]; omega
    | some b =>
      have : (l.filterMap g).length < l.length := filterMap_lt g (by
        obtain ⟨t, h1, h2⟩ := h
        rcases List.mem_cons.mp h1 with z | z
        · rw [z, q] at h2; cases h2
        · exact ⟨t, z, h2⟩)
      simp only [List.length_cons]; omega
theorem swapped_cell (f : GoodF T I X) {ts vs : List Expr} {kt k2 : Nat} {pt pt2 : Pos} (h : cellB I.sc ts = true) : swappedStores [.Tuple ts kt pt] (.Tuple vs k2 pt2) X.env = pure none := by
  unfold cellB at h
  obtain ⟨t, ht, hb⟩ := List.any_eq_true.mp h
  have hn : ∀ line : Nat, ∃ t ∈ ts, (match t with
    | .Name id pos => if X.env.kindOf id == some .local && pos.line == line then some id else none
    | _ => none) = (none : Option Str) := fun line => by
    refine ⟨t, ht, ?_⟩
    cases t with
    | Name x p =>
      have hb' : (!(I.sc.names.lookup x == some .local)) = true := hb
      have hk : (X.env.kindOf x == some .local) = false := by
        show (X.env.scope.names.lookup x == some .local) = false
        rw [f.gi.sc]
        simpa using hb'
      show (if (X.env.kindOf x == some .local && p.line == line) = true then some x else none) = none
      rw [hk]
      rfl
    | _ => rfl
  have key : ∀ (l : List Str), l.length < ts.length → ((l.length != ts.length || l.eraseDups.length != l.length) = true) := fun l hl => by
    have : (l.length != ts.length) = true := by simp; omega
    rw [this]; rfl
  unfold swappedStores
  by_cases c1 : (!(ts.length == 2 || ts.length == 3) || vs.length != ts.length || X.env.blockKind != .function) = true
  · exact if_pos c1
  · refine (if_neg c1).trans ?_
    by_cases c2 : (vs.any fun | .Starred .. => true | _ => false) = true
    · exact if_pos c2
    · refine (if_neg c2).trans ?_
      exact if_pos (key _ (filterMap_lt _ (hn _)))
theorem isEnm_ok {it a : Expr} (h : isEnm it = some a) : ∃ p p2, it = .Call (.Name "enumerate" p) [a] [] p2 := by
  unfold isEnm at h
  split at h
  · rename_i f p b p2
    by_cases z : f = "enumerate"
    · rw [if_pos z] at h; cases h; subst z; exact ⟨p, p2, rfl⟩
    · rw [if_neg z] at h; cases h
  · cases h
end
end MP
end
section
set_option maxRecDepth 100000
set_option maxHeartbeats 400000
namespace MP
open PySem PySem.Spec PyProof.Rows L2
section
variable {T : Tab} {P : Prog} {call : Call} {G : Gb} {I : Inf} {k : Nat} {X : Cx} {a b d e o : Expr} {pos : Pos}
theorem cA_ok (g : Good T P call G k X) (f : GoodF T I X) (n : Nat) (tg e : Expr) (h : List Addr) : PS X (.Assign [tg] e pos) (tS (T.hide h) (evS P call (cA G I n tg e pos))) := by
  have hK : X.K = (T.hide h).K := g.K
  have sA := snd_all (T := T) (P := P) (call := call) (G := G) (k := k) n
  have s := sA I X g f.gi
  unfold cA
  split
  · rename_i o fl p
    refine SS_seta hK (g.ob h) (s.e _ h) (s.e _ h) ?_
    cases e <;> rfl
  · rename_i o i p
    by_cases hz : plainB i = true
    · rw [if_pos hz]
      refine SS_seti (s.e _ h) (s.e _ h) (s.e _ h) (by cases e <;> rfl) (swapped_none (.inl rfl) (fun _ _ z => by cases z)) rfl fun v => ?_
      cases i <;> first | rfl | cases hz
    · rw [if_neg hz]; exact PS_bot
  · rename_i x py
    split
    · rename_i elt tg2 iter ifs sc p
      by_cases hw : swB I.sc x py.line p.line sc = true
      · rw [if_pos hw]
        cases ht : cTg (I.into sc) tg2 with
        | none => exact PS_bot
        | some t =>
          cases hs : I.slot x with
          | none => exact PS_bot
          | some i =>
            dsimp only
            by_cases hz : (blkC I.N I.sc sc (ownL I.N sc.names) && ((tgIx t).all fun i => decide (i ∈ (ownL I.N sc.names).map (·.2))) && noSet iter) = true
            · rw [if_pos hz]
              rw [Bool.and_eq_true, Bool.and_eq_true] at hz
              obtain ⟨w1, w2⟩ := swB_ok (l := pos.line) (gs := [⟨tg2, iter, ifs, 0⟩]) (elt := elt) (p := p) f hw
              refine SS_setLc (T := T.hide h) (VR := Rep) (fun _ _ _ _ _ z => z) g.calm f.gi.nd (by rw [f.gi.N]; exact (slot_ok hs).2.2.2) w2 w1 (s.i tg2 iter h) ?_ ?_ (fun s' H C cl fp => ?_) (fun s' H C cl fp => ?_) (fun s' H C cl fp => ?_) (noSet_ok hz.2 _)
              · rw [f.gi.N, f.gi.sc]; exact blkOk_by hz.1.1
              · intro i hi
                have := List.all_eq_true.mp hz.1.2 i hi
                simpa using this
              · exact GX_all fun h' => SV_rep (cTg_ok (X := X.blk s' H sc (compEnvC sc cl C X.env) fp) (T := (T.hide h).hide h') g.K g.calm f.gi.blk ht)
              · exact ⟨fun pins s2 σ H' Q I' ⟨hh, q⟩ => ((sA (I.into sc) _ g.blk f.gi.blk).c ifs).run pins s2 σ H' Q I' ⟨hh, q⟩⟩
              · exact SX_all fun h' => (sA (I.into sc) _ g.blk f.gi.blk).e elt h'
            · rw [if_neg hz]; exact PS_bot
      · rw [if_neg hw]; exact PS_bot
    · rename_i elt tg2 iter ifs tg3 iter3 ifs3 sc p
      by_cases hw : swB I.sc x py.line p.line sc = true
      · rw [if_pos hw]
        cases ht : cTg (I.into sc) tg2 with
        | none => exact PS_bot
        | some t =>
         cases ht3 : cTg (I.into sc) tg3 with
         | none => exact PS_bot
         | some t3 =>
          cases hs : I.slot x with
          | none => exact PS_bot
          | some i =>
            dsimp only
            by_cases hz : (blkC I.N I.sc sc (ownL I.N sc.names) && ((tgIx t).all fun i => decide (i ∈ (ownL I.N sc.names).map (·.2))) && ((tgIx t3).all fun i => decide (i ∈ (ownL I.N sc.names).map (·.2))) && (noSet iter && noSet iter3)) = true
            · rw [if_pos hz]
              rw [Bool.and_eq_true, Bool.and_eq_true, Bool.and_eq_true, Bool.and_eq_true] at hz
              obtain ⟨w1, w2⟩ := swB_ok (l := pos.line) (gs := [⟨tg2, iter, ifs, 0⟩, ⟨tg3, iter3, ifs3, 0⟩]) (elt := elt) (p := p) f hw
              refine SS_setLc2 (T := T.hide h) (VR := Rep) (VR2 := Rep) g.calm f.gi.nd (by rw [f.gi.N]; exact (slot_ok hs).2.2.2) w2 w1 (s.i tg2 iter h) ?_ ?_ ?_ (fun s' H C cl fp => ?_) (fun s' H C cl fp => ?_) (fun s' H C cl fp => ?_) (fun s' H C cl fp => ?_) (fun s' H C cl fp => ?_) (fun s' H C cl fp => ?_) (noSet_ok hz.2.1 _) (fun env v => noSet_ok hz.2.2 env v)
              · rw [f.gi.N, f.gi.sc]; exact blkOk_by hz.1.1.1
              · intro i hi
                have := List.all_eq_true.mp hz.1.1.2 i hi
                simpa using this
              · intro i hi
                have := List.all_eq_true.mp hz.1.2 i hi
                simpa using this
              · exact GX_all fun h' => SV_rep (cTg_ok (X := X.blk s' H sc (compEnvC sc cl C X.env) fp) (T := (T.hide h).hide h') g.K g.calm f.gi.blk ht)
              · exact ⟨fun pins s2 σ H' Q I' ⟨hh, q⟩ => ((sA (I.into sc) _ g.blk f.gi.blk).c ifs).run pins s2 σ H' Q I' ⟨hh, q⟩⟩
              · exact IX_all fun h' => (sA (I.into sc) _ g.blk f.gi.blk).i tg3 iter3 h'
              · exact GX_all fun h' => SV_rep (cTg_ok (X := X.blk s' H sc (compEnvC sc cl C X.env) fp) (T := (T.hide h).hide h') g.K g.calm f.gi.blk ht3)
              · exact ⟨fun pins s2 σ H' Q I' ⟨hh, q⟩ => ((sA (I.into sc) _ g.blk f.gi.blk).c ifs3).run pins s2 σ H' Q I' ⟨hh, q⟩⟩
              · exact SX_all fun h' => (sA (I.into sc) _ g.blk f.gi.blk).e elt h'
            · rw [if_neg hz]; exact PS_bot
      · rw [if_neg hw]; exact PS_bot
    · by_cases hn : notComp e = true
      · rw [if_pos hn]
        cases ht : cTg I (.Name x py) with
        | none => exact PS_bot
        | some t => exact SS_asg (s.e _ h) (cTg_ok hK g.calm f.gi ht) (show swapsWith e (some (.Name x py)) pos.line X.env = pure false from notComp_ok hn _ _ _) (swapped_none (.inl rfl) (fun _ _ z => by cases z)) rfl
      · rw [if_neg hn]; exact PS_bot
  · rename_i ts kk tp
    by_cases hn : notComp e = true
    · rw [if_pos hn]
      split
      · rename_i vs k2 p2
        by_cases hcb : cellB I.sc ts = true
        · rw [if_pos hcb]
          cases ht : cTg I (.Tuple ts kk tp) with
          | none => exact PS_bot
          | some t => exact SS_asg (s.e _ h) (cTg_ok hK g.calm f.gi ht) (show swapsWith (.Tuple vs k2 p2) (some (.Tuple ts kk tp)) pos.line X.env = pure false from rfl) (swapped_cell f hcb) rfl
        rw [if_neg hcb]
        by_cases hp : parOk I.sc ts vs = true
        · rw [if_pos hp]
          split
          · rename_i t1 t2 v1 v2
            cases h1 : nmL I t1.pos.line t1 with
            | none => exact PS_bot
            | some q1 =>
              obtain ⟨i, x⟩ := q1
              cases h2 : nmL I t1.pos.line t2 with
              | none => exact PS_bot
              | some q2 =>
                obtain ⟨j, y⟩ := q2
                dsimp only
                by_cases hxy : x ≠ y
                · rw [if_pos hxy]
                  obtain ⟨p1, e1, l1, m1, n1⟩ := nmL_ok h1
                  obtain ⟨p2, e2, l2, m2, n2⟩ := nmL_ok h2
                  subst e1 e2
                  exact SS_par2 g.calm f.gi.nd (by rw [f.gi.N]; exact n1) (by rw [f.gi.N]; exact n2) (idx_ne n1 n2 hxy) (kind_of f l1) (kind_of f l2) (s.es _ h) (swapped2 f (kind_of f l1) (kind_of f l2) m2 hxy hp)
                · rw [if_neg hxy]; exact PS_bot
          · rename_i t1 t2 t3 v1 v2 v3
            cases h1 : nmL I t1.pos.line t1 with
            | none => exact PS_bot
            | some q1 =>
              obtain ⟨i, x⟩ := q1
              cases h2 : nmL I t1.pos.line t2 with
              | none => exact PS_bot
              | some q2 =>
                obtain ⟨j, y⟩ := q2
                cases h3 : nmL I t1.pos.line t3 with
                | none => exact PS_bot
                | some q3 =>
                  obtain ⟨l, z⟩ := q3
                  dsimp only
                  by_cases hxy : x ≠ y ∧ x ≠ z ∧ y ≠ z
                  · rw [if_pos hxy]
                    obtain ⟨p1, e1, l1, m1, n1⟩ := nmL_ok h1
                    obtain ⟨p2, e2, l2, m2, n2⟩ := nmL_ok h2
                    obtain ⟨p3, e3, l3, m3, n3⟩ := nmL_ok h3
                    subst e1 e2 e3
                    exact SS_par3 g.calm f.gi.nd (by rw [f.gi.N]; exact n1) (by rw [f.gi.N]; exact n2) (by rw [f.gi.N]; exact n3) (idx_ne n1 n2 hxy.1) (idx_ne n1 n3 hxy.2.1) (idx_ne n2 n3 hxy.2.2) (kind_of f l1) (kind_of f l2) (kind_of f l3) (s.es _ h)
                      (swapped3 f (kind_of f l1) (kind_of f l2) (kind_of f l3) m2 m3 hxy.1 hxy.2.1 hxy.2.2 hp)
                  · rw [if_neg hxy]; exact PS_bot
          · exact PS_bot
        · rw [if_neg hp]; exact PS_bot
      · rename_i hne
        cases ht : cTg I (.Tuple ts kk tp) with
        | none => exact PS_bot
        | some t =>
          refine SS_asg (s.e _ h) (cTg_ok hK g.calm f.gi ht) (show swapsWith e (some (.Tuple ts kk tp)) pos.line X.env = pure false from notComp_ok hn _ _ _) (swapped_none (.inr ?_) (fun _ _ z => by cases z)) rfl
          cases e <;> first | rfl | exact absurd rfl (hne _ _ _)
    · rw [if_neg hn]; exact PS_bot
  · exact PS_bot
/-- all that is shown of statements by the fuel n -/
structure SndS (T : Tab) (P : Prog) (call : Call) (G : Gb) (I : Inf) (X : Cx) (n : Nat) : Prop where
  s : ∀ s h, PS X s (tS (T.hide h) (evS P call (cS G I n s)))
  ss : ∀ ss h, PSs X ss (tS (T.hide h) (evSs P call (cSs G I n ss)))
theorem PSs_bad {ss : List Stmt} {f : Evl Fl} (h : ∀ γ b c, f γ b c = .bad) : PSs X ss (tS T f) := pss_never.mono fun D σ H ⟨ρ, fr, c, γ, st, en, p⟩ => by rw [h] at p; exact p
theorem sndS_all (g : Good T P call G k X) (f : GoodF T I X) : ∀ n, SndS T P call G I X n
  | 0 => ⟨fun s h => by unfold cS; exact PS_bot, fun ss h => PSs_bad fun γ b c => by unfold cSs evSs; rw [evS_bot]; rfl⟩
  | n + 1 => by
    have ih := sndS_all g f n
    have s := snd_all (T := T) (P := P) (call := call) (G := G) (k := k) n I X g f.gi
    refine ⟨fun st h => ?_, fun ss h => ?_⟩
    · unfold cS
      split
      · exact SS_pas
      · exact SS_brk
      · exact SS_cnt
      · exact SS_retN
      · exact SS_ret (s.e _ h)
      · exact SS_doc
      · rename_i e p _
        by_cases hn : notComp e = true
        · rw [if_pos hn]; exact SS_expr (s.e _ h) (notComp_ok hn _ _ _)
        · rw [if_neg hn]; exact PS_bot
      · exact SS_ife (s.t _ h) (ih.ss _ h) (ih.ss _ h)
      · rename_i tg iter body p
        have gen : PS X (.For tg iter body [] p) (tS (T.hide h) (evS P call (match cTg I tg with
            | some t => if noSet iter then .for t (cI G I n iter) (cSs G I n body) else sbot
            | none => sbot))) := by
          cases ht : cTg I tg with
          | none => exact PS_bot
          | some t =>
            dsimp only
            by_cases hz : noSet iter = true
            · rw [if_pos hz]
              exact SS_for (VR := Rep) (fun _ _ _ _ _ z => z) (T := T.hide h) g.K g.calm f.hp (s.i tg iter h) (SV_rep (cTg_ok (T := T.hide h) g.K g.calm f.gi ht)) (ih.ss _ h) (noSet_ok hz _)
            · rw [if_neg hz]; exact PS_bot
        split
        · rename_i a ts kt tp he
          obtain ⟨p1, p2, rfl⟩ := isEnm_ok he
          by_cases hz : (isGl I.sc "enumerate" && (G.free "enumerate" && noStar [a])) = true
          · rw [if_pos hz]
            rw [Bool.and_eq_true, Bool.and_eq_true] at hz
            cases ht : cTgs I ts with
            | none => exact PS_bot
            | some is =>
              exact SS_for (VR := RepW) (fun _ _ _ _ _ z => .inl z) (T := T.hide h) g.K g.calm f.hp (SI_enm (T := T.hide h) g.K (g.glob f.gi hz.1) (g.free _ hz.2.1).1 (s.e a h) (noStar1 hz.2.2)) (SV_tp (T := T.hide h) g.K g.calm f.gi.nd (cTgs_ok f.gi ht)) (ih.ss _ h) (fun _ => rfl)
          · rw [if_neg hz]; exact PS_bot
        · exact gen
      · rename_i x p1 op e p
        by_cases hl : isLoc I.st x = true
        · rw [if_pos hl]
          split
          · rename_i i hs
            exact SS_aug (.inl rfl) f.gi.nd (by rw [f.gi.N]; exact (slot_ok hs).2.2.2) (f.gi.loc x hl).1 (f.gi.loc x hl).2 (s.e _ h)
          · rename_i i hs
            exact SS_aug (.inr rfl) f.gi.nd (by rw [f.gi.N]; exact (slot_ok hs).2.2.2) (f.gi.loc x hl).1 (f.gi.loc x hl).2 (s.e _ h)
          · exact PS_bot
        · rw [if_neg hl]; exact PS_bot
      · exact cA_ok g f n _ _ h
      · exact PS_bot
    · cases ss with
      | nil => unfold cSs; exact SSs_nil
      | cons st ss => unfold cSs; exact SSs_cons (ih.s st h) (ih.ss ss h)
end
end MP
end
section
set_option maxRecDepth 100000
set_option maxHeartbeats 1000000
namespace MP
open PySem PySem.Spec PyProof.Rows L2

section
variable {T : Tab} {P : Prog} {call : Call} {X : Cx}
/-- a comparison by an own method -/
def rOwn (T : Tab) (P : Prog) (call : Call) (op : CmpOp) : V → V → Hp → VK → Prop := fun x y H Q => ∃ ρ fr c dx dy, StoreOk T ρ H (fr ++ c) ∧ Rep T ρ H x dx ∧ Rep T ρ H y dy ∧ (ownCmp P op fr.length c dx dy).isSome = true ∧ Post T fr (RQ T Q) NoW ρ H (noExc (cmpX P call op dx dy fr.length c))
theorem op_CX (hK : X.K = T.K) (hu : X.A.units + 80 < cLine) {op : CmpOp} (ho : OpR X (compareOp op) (rOwn T P call op)) : OpR X (compareOp op) (rCX T P call op) := by
  intro pins s σ H x y v u Q I rx ry h
  obtain ⟨ρ, fr, c, dx, dy, st, r1, r2, p⟩ := h
  cases q : ownCmp P op fr.length c dx dy with
  | some z => exact ho pins s σ H x y v u Q I rx ry ⟨ρ, fr, c, dx, dy, st, r1, r2, by rw [q]; rfl, p⟩
  | none =>
    have p2 : Post T fr (RQ T Q) NoW ρ H (noExc (ofOpt ((cmpSem op fr.length c dx dy).map .bl) c)) := by
      unfold cmpX at p
      rw [q] at p
      exact p
    cases z : cmpSem op fr.length c dx dy with
    | none => rw [z] at p2; exact p2.elim
    | some kk =>
      rw [z] at p2
      exact op_cmp hK hu op pins s σ H x y v u Q I rx ry ⟨ρ, fr, c, dx, dy, kk, st, r1, r2, z, p2 ρ H (Ext.refl _ _) st _ (.bl kk)⟩
def rOwnL (T : Tab) (P : Prog) (call : Call) : List V → Hp → VK → Prop := fun xs H Q => ∃ ρ fr c dx, StoreOk T ρ H (fr ++ c) ∧ RepL T ρ H xs [dx] ∧ (ownLen P .len [dx] fr.length c).isSome = true ∧ Post T fr (RQ T Q) NoW ρ H (noExc (bltX P call .len [dx] fr.length c))
theorem cl_BX (hK : X.K = T.K) (hcalm : X.calm = true) (hgd : X.A.guards = some []) (hu' : X.A.units + 120 < cLine) (hl : CallR X (Bi.vl .len) (rOwnL T P call)) (f : Bi) : CallR X f.vl (rBX T P call f) := by
  intro pins s σ H xs us Q I r h
  obtain ⟨ρ, fr, c, ds, st, rl, p⟩ := h
  cases q : ownLen P f ds fr.length c with
  | some z =>
    have hf : f = .len ∧ ∃ dx, ds = [dx] := by
      cases f <;> first | (cases ds with
        | nil => cases q
        | cons dx r => cases r with
          | nil => exact ⟨rfl, dx, rfl⟩
          | cons _ _ => cases q) | (cases ds <;> cases q)
    obtain ⟨rfl, dx, rfl⟩ := hf
    exact hl pins s σ H xs us Q I r ⟨ρ, fr, c, dx, st, rl, by rw [q]; rfl, p⟩
  | none =>
    have p2 : Post T fr (RQ T Q) NoW ρ H (noExc (ofOpt (bltSem f ds fr.length c) c)) := by
      unfold bltX at p
      rw [q] at p
      exact p
    cases z : bltSem f ds fr.length c with
    | none => rw [z] at p2; exact p2.elim
    | some d => rw [z] at p2; exact cl_bi hK hcalm hgd hu' f pins s σ H xs us Q I r ⟨ρ, fr, c, ds, d, st, rl, z, fun ρ' H' v e s' r' => p2 ρ' H' e s' v r'⟩
end

/-- where the program stands -/
structure Site where
  prog : Program
  w : PySem.World
  mg : Str → Option Value
  base : Heap
def Site.at (S : Site) (T : Tab) (X : Cx) : Prop := X.prog = S.prog ∧ X.w = S.w ∧ X.K = T.K ∧ X.mg = S.mg ∧ X.base = S.base ∧ X.calm = true
/-- a def, its code, where it stands -/
structure DefF (S : Site) (T : Tab) (P : Prog) (G : Gb) (f : Str) (F : Fun) (fa : Addr) (fd : FuncData) (ps : List Str) : Prop where
  ex : ∃ x qual params body scope dvs kws fuel lam, FunD T.K x qual params body scope dvs kws fa fd ∧ FnScope F.N ps scope ∧ F.body = cSs G ⟨F.N, scope, scope, lam⟩ fuel body ∧
    (lam = true → ∃ c0 P0, fd.code = .ref c0 ∧ LamX.TabB S.base S.mg c0 P0 ∧ (P0, (qual ++ ".<locals>.") ++ "<lambda>") ∈ T.tb ∧ ∀ p ∈ T.tb, p.1 = P0 → p.2 = (qual ++ ".<locals>.") ++ "<lambda>")
  at_ : T.fA f = some fa
  fn : PySem.W.isFn T.K (.ref fa) = true
  bd : Binds T.K fd ps []
  np : F.np = ps.length
  kw : KwD T.K T P f fd ps
theorem DefF.kp {S : Site} {T : Tab} {P : Prog} {G : Gb} {f : Str} {F : Fun} {fa : Addr} {fd : FuncData} {ps : List Str} (D : DefF S T P G f F fa fd ps) : PySem.W.keepIn T.K (.ref fa) = true := by
  obtain ⟨_, _, _, _, _, _, _, _, _, h, _, _⟩ := D.ex
  exact h.kp
/-- the program's facts -/
structure Facts (S : Site) (T : Tab) (P : Prog) (G : Gb) : Prop where
  defs : ∀ f F, P.fun? f = some F → ∃ fa fd ps, DefF S T P G f F fa fd ps
  fn : ∀ n q, G.fn n = some q → ∃ F fa fd ps, P.fun? q = some F ∧ DefF S T P G q F fa fd ps ∧ S.mg n = some (.ref fa) ∧ ∀ m dv, G.dv q m = some dv → ∃ ds vs, Binds T.K fd ps ds ∧ Vals vs ds ∧ ∀ h ρ H, RepL (T.hide h) ρ H vs (dv.map K.toD)
  fld : ∀ cn f C, P.fld cn f = true → T.cA cn = some C → Cls T.K C ∧ NoAttr T.K C f
  prop : ∀ cn f q, P.prop cn f = some q → ∃ C p F fa fd ps, T.cA cn = some C ∧ Cls T.K C ∧ PropOf T.K C f p fa ∧ P.fun? q = some F ∧ DefF S T P G q F fa fd ps
  meth : ∀ cn m q, P.meth cn m = some q → ∃ C F fa fd ps, T.cA cn = some C ∧ Cls T.K C ∧ Meth T.K C m fa ∧ P.fun? q = some F ∧ DefF S T P G q F fa fd ps
  ty : TyF T P
  cl : ∀ n c, G.cl n = some c → ∃ C, S.mg n = some (.ref C) ∧ T.cA c = some C
  con : ∀ n d, G.con n = some d → ∃ u v, S.mg n = some u ∧ RelV v u ∧ ∀ h ρ H, Rep (T.hide h) ρ H v d.toD
  kd : ∀ n kvs, G.kd n = some kvs → ∃ d, S.mg n = some (.ref d) ∧ KdAt T.K S.w T d kvs
  lp : T.lp = lpOf G
  free : ∀ n, G.free n = true → S.mg n = none ∧ n ≠ ("__name__" : Str)
  mk0 : ∀ cn, G.ini0 cn = true → P.exc cn = false ∧ P.init cn = some none ∧ ∃ C, T.cA cn = some C ∧ Mk0 T.K C
  mkc : ∀ cn q, G.init cn = some q → P.exc cn = false ∧ P.init cn = some (some q) ∧ ∃ C F fa fd ps, T.cA cn = some C ∧ Mk T.K C fa ∧ P.fun? q = some F ∧ DefF S T P G q F fa fd ps ∧ ∀ m dv, G.dv q m = some dv → ∃ ds vs, Binds T.K fd ps ds ∧ Vals vs ds ∧ ∀ h ρ H, RepL (T.hide h) ρ H vs (dv.map K.toD)
/-- the defs' promises, calls n deep -/
def AllOk (S : Site) (T : Tab) (P : Prog) (G : Gb) (n : Nat) : Prop :=
  (∀ f F fa fd ps, P.fun? f = some F → DefF S T P G f F fa fd ps → ∀ h, FnOkG S.prog S.w T.K S.mg S.base CX0 (2 * n) fa fd ps (spF (T.hide h) (calls P n) f)) ∧
  ∀ h, LamOk S.prog S.w T.K S.mg S.base (2 * n) (T.hide h) (calls P n)
/-- what own methods that == , in, len ask do -/
def OwnOk (S : Site) (T : Tab) (P : Prog) (G : Gb) : Prop := ∀ n, AllOk S T P G n → ∀ X, S.at T X → RoomG (2 * n + 1) X.A → ∀ h,
  (∀ op, OpR X (compareOp op) (rOwn (T.hide h) P (calls P n) op)) ∧ CallR X (Bi.vl .len) (rOwnL (T.hide h) P (calls P n)) ∧ TrR X (rTX (T.hide h) P (calls P n))
theorem allOk0 {S : Site} {T : Tab} {P : Prog} {G : Gb} : AllOk S T P G 0 := by
  refine ⟨fun f F fa fd ps _ _ h => ?_, fun h A outer s H us vs Q ρ fr c a x sz np cs ds _ _ _ _ _ _ _ p => p.elim⟩
  have no : ∀ vs H Q E, ¬ spF (T.hide h) (calls P 0) f vs H Q E := fun vs H Q E ⟨ρ, fr, c, ds, _, _, p⟩ => p
  exact ⟨fun vs H Q E q => (no _ _ _ _ q).elim, fun A outer s H args us vs Q E _ _ _ _ q => (no _ _ _ _ q).elim⟩
section
variable {S : Site} {T : Tab} {P : Prog} {G : Gb} {n : Nat} {X : Cx}
theorem fnG_at (hA : AllOk S T P G n) (hX : S.at T X) {f : Str} {F : Fun} {fa : Addr} {fd : FuncData} {ps : List Str} (hF : P.fun? f = some F) (D : DefF S T P G f F fa fd ps) (h : List Addr) : FnG X (T.hide h) (calls P n) (2 * n) f fa fd ps := by
  obtain ⟨e1, e2, e3, e4, e5, e6⟩ := hX
  refine ⟨D.at_, by rw [e3]; exact D.kp, by rw [e3]; exact D.fn, ?_, by rw [e3]; exact D.bd⟩
  rw [e1, e2, e3, e4, e5]
  exact hA.1 f F fa fd ps hF D h
theorem good_of (Fc : Facts S T P G) (hO : OwnOk S T P G) (hA : AllOk S T P G n) (hX : S.at T X) (hr : RoomG (2 * n + 1) X.A) : Good T P (calls P n) G (2 * n) X where
  K := hX.2.2.1
  calm := hX.2.2.2.2.2
  room := hr
  op := fun Y e h op => by
    have hY : S.at T Y := ⟨e.prog.trans hX.1, e.w.trans hX.2.1, e.K.trans hX.2.2.1, e.mg.trans hX.2.2.2.1, e.base.trans hX.2.2.2.2.1, e.calm.trans hX.2.2.2.2.2⟩
    have hrY : RoomG (2 * n + 1) Y.A := by rw [e.A]; exact hr
    exact op_CX (T := T.hide h) hY.2.2.1 (by have := hrY.un; omega) ((hO n hA Y hY hrY h).1 op)
  bi := fun Y e h f => by
    have hY : S.at T Y := ⟨e.prog.trans hX.1, e.w.trans hX.2.1, e.K.trans hX.2.2.1, e.mg.trans hX.2.2.2.1, e.base.trans hX.2.2.2.2.1, e.calm.trans hX.2.2.2.2.2⟩
    have hrY : RoomG (2 * n + 1) Y.A := by rw [e.A]; exact hr
    exact cl_BX (T := T.hide h) hY.2.2.1 hY.2.2.2.2.2 hrY.gd (by have := hrY.un; omega) (hO n hA Y hY hrY h).2.1 f
  tr := fun Y e h => by
    have hY : S.at T Y := ⟨e.prog.trans hX.1, e.w.trans hX.2.1, e.K.trans hX.2.2.1, e.mg.trans hX.2.2.2.1, e.base.trans hX.2.2.2.2.1, e.calm.trans hX.2.2.2.2.2⟩
    have hrY : RoomG (2 * n + 1) Y.A := by rw [e.A]; exact hr
    exact (hO n hA Y hY hrY h).2.2
  lm := fun Y e h => by
    have hY : S.at T Y := ⟨e.prog.trans hX.1, e.w.trans hX.2.1, e.K.trans hX.2.2.1, e.mg.trans hX.2.2.2.1, e.base.trans hX.2.2.2.2.1, e.calm.trans hX.2.2.2.2.2⟩
    have hrY : RoomG (2 * n) Y.A := by rw [e.A]; exact hr.mono (Nat.le_succ _)
    have L := hA.2 h
    obtain ⟨e1, e2, e3, e4, e5, e6⟩ := hY
    refine LamOk.at_ (k := 2 * n) ?_ hrY
    rw [e1, e2, e3, e4, e5]
    exact L
  lp := Fc.lp
  mk0 := fun cn e => by
    obtain ⟨h0, h1, C, h2, h3⟩ := Fc.mk0 cn e
    exact ⟨h0, h1, C, h2, by rw [hX.2.2.1]; exact h3⟩
  fnk := fun m q e => by
    obtain ⟨F, fa, fd, ps, h1, h2, h3, h4⟩ := Fc.fn m q e
    exact ⟨fa, fd, ps, by rw [hX.2.2.2.1]; exact h3, fun h => fnG_at hA hX h1 h2 h, by rw [hX.2.2.1]; exact h2.kw⟩
  mkk := fun cn q e => by
    obtain ⟨h0, h1, C, F, fa, fd, ps, h2, h3, h4, h5, h6⟩ := Fc.mkc cn q e
    exact ⟨h0, h1, C, fa, fd, ps, h2, by rw [hX.2.2.1]; exact h3, fun h => fnG_at hA hX h4 h5 h, by rw [hX.2.2.1]; exact h5.kw⟩
  mtk := fun h cn m q e => by
    obtain ⟨C, F, fa, fd, ps, h1, h2, h3, h4, h5⟩ := Fc.meth cn m q e
    exact ⟨C, fa, fd, ps, h1, h2, h3, fnG_at hA hX h4 h5 h, by rw [hX.2.2.1]; exact h5.kw.hide h⟩
  ob := fun h => ⟨Fc.fld, fun cn f q e => by
      obtain ⟨C, p, F, fa, fd, ps, h1, h2, h3, h4, h5⟩ := Fc.prop cn f q e
      exact ⟨C, p, fa, fd, ps, h1, h2, h3, fnG_at hA hX h4 h5 h⟩, fun cn m q e => by
      obtain ⟨C, F, fa, fd, ps, h1, h2, h3, h4, h5⟩ := Fc.meth cn m q e
      exact ⟨C, fa, fd, ps, h1, h2, h3, fnG_at hA hX h4 h5 h⟩⟩
  ty := Fc.ty
  fn := fun m q e => by
    obtain ⟨F, fa, fd, ps, h1, h2, h3, h4⟩ := Fc.fn m q e
    refine ⟨fa, fd, ps, by rw [hX.2.2.2.1]; exact h3, fun h => fnG_at hA hX h1 h2 h, fun j dv hd h => ?_⟩
    obtain ⟨ds, vs, b1, b2, b3⟩ := h4 j dv hd
    exact ⟨ds, vs, by rw [hX.2.2.1]; exact b1, b2, b3 h⟩
  cl := fun m c e => by
    obtain ⟨C, h1, h2⟩ := Fc.cl m c e
    exact ⟨C, by rw [hX.2.2.2.1]; exact h1, h2⟩
  con := fun m d e => by
    obtain ⟨u, v, h1, h2, h3⟩ := Fc.con m d e
    exact ⟨u, v, by rw [hX.2.2.2.1]; exact h1, h2, h3⟩
  kd := fun m kvs e => by
    obtain ⟨d, h1, h2⟩ := Fc.kd m kvs e
    exact ⟨d, by rw [hX.2.2.2.1]; exact h1, by rw [hX.2.2.1, hX.2.1]; exact h2⟩
  free := fun m e => by
    obtain ⟨h1, h2⟩ := Fc.free m e
    exact ⟨by rw [hX.2.2.2.1]; exact h1, h2⟩
  any := fun f e => by
    cases hF : P.fun? f with
    | none => rw [hF] at e; cases e
    | some F =>
      obtain ⟨fa, fd, ps, D⟩ := Fc.defs f F hF
      exact ⟨fa, fd, ps, fun h => fnG_at hA hX hF D h⟩
  mkc := fun cn q e => by
    obtain ⟨h0, h1, C, F, fa, fd, ps, h2, h3, h4, h5, h6⟩ := Fc.mkc cn q e
    refine ⟨h0, h1, C, fa, fd, ps, h2, by rw [hX.2.2.1]; exact h3, fun h => fnG_at hA hX h4 h5 h, fun j dv hd h => ?_⟩
    obtain ⟨ds, vs, b1, b2, b3⟩ := h6 j dv hd
    exact ⟨ds, vs, by rw [hX.2.2.1]; exact b1, b2, b3 h⟩
theorem lpF_of (Fc : Facts S T P G) (hO : OwnOk S T P G) (hA : AllOk S T P G n) (h : List Addr) : LpF S.prog S.w T.K S.mg S.base (2 * n + 1) (T.hide h) (calls P (n + 1)) := by
  refine ⟨fun params body scope ps fr x sz hlp => ?_⟩
  have hlp' : T.lp params body scope ps fr x sz := hlp
  rw [Fc.lp] at hlp'
  obtain ⟨N, m, h1, h2, rfl, rfl⟩ := hlp'
  have S2 := NdefX.nscope_by h2
  refine ⟨N, S2, rfl, fun q cl pm cv ctv us hl => (parB_ok h1).2 q body scope cl pm cv ctv us hl, fun F f A outer s H hF hr => ?_⟩
  have g : Good T P (calls P n) G (2 * n) (NdefX.ncx CX0 S.prog S.w T.K S.mg S.base N F f A outer s H E0).nox := good_of Fc hO hA ⟨rfl, rfl, rfl, rfl, rfl, rfl⟩ hr
  have gi : GoodI T ⟨N, scope, scope, false⟩ (NdefX.ncx CX0 S.prog S.w T.K S.mg S.base N F f A outer s H E0).nox := by
    refine ⟨(fun z => by cases (show false = true from z)), rfl, S2.nd, hF, fun y hy => ?_⟩
    have hl := isLoc_ok (show isLoc scope y = true from hy)
    have loc : scope.names.lookup y = some .local := by
      rcases hl with z | z
      · exact z
      · exact absurd rfl (S2.nocell _ (PySem.mem_of_lookup z))
    have loc2 : F.scope.names.lookup y = some .local := by rw [hF]; exact loc
    exact ⟨.inl loc2, .inr loc2⟩
  exact (snd_all m _ _ g gi).e body h
theorem allOk_step (Fc : Facts S T P G) (hO : OwnOk S T P G) (hA : AllOk S T P G n) : AllOk S T P G (n + 1) := by
  refine ⟨fun f F fa fd ps hF D h => ?_, fun h => lamOk_of (lpF_of Fc hO hA h)⟩
  obtain ⟨x, qual, params, body, scope, dvs, kws, fuel, lam, h1, h2, h3, h4⟩ := D.ex
  refine fnG_of (k := 2 * n + 1) (T := T.hide h) hF h1 h2 D.np fun cdv A outer s H hcd hr => ?_
  rw [h3]
  have g : Good T P (calls P n) G (2 * n) (cxOf CX0 S.prog S.w T.K S.mg S.base F.N qual scope fa cdv A outer s H E0).nox := good_of Fc hO hA ⟨rfl, rfl, rfl, rfl, rfl, rfl⟩ hr
  have gf : GoodF T ⟨F.N, scope, scope, lam⟩ (cxOf CX0 S.prog S.w T.K S.mg S.base F.N qual scope fa cdv A outer s H E0).nox := by
    refine ⟨⟨fun hl => ?_, rfl, h2.nd, rfl, fun y hy => ⟨isLoc_ok hy, .inl rfl⟩⟩, PassesOwn.never, h2.kind, rfl⟩
    obtain ⟨c0, P0, q1, q2, q3, q4⟩ := h4 hl
    exact ⟨c0, P0, q2, hcd.symm.trans q1, q3, q4⟩
  exact (sndS_all g gf fuel).ss body h
theorem allOk (Fc : Facts S T P G) (hO : OwnOk S T P G) : ∀ n, AllOk S T P G n
  | 0 => allOk0
  | n + 1 => allOk_step Fc hO (allOk Fc hO n)
end
end MP
end
section
set_option maxRecDepth 100000
set_option maxHeartbeats 1000000
namespace MPW
open PySem PySem.Calls PyProof.Rows Builtin PySem.W
section
variable {prog : Program} {w : World} {A : Around} {E : Value → Shared → Prop} {s : Shared} {K : Frag} {x C L f : Addr} {h₀ : Heap} {m : Str → Option Value} {ox : Obj} {od : Option Obj} {b tb : Value}
theorem ne_bind (self : Value) : bindSpecial (.builtin "object.__ne__") self = pure (.builtin "object.__ne__", [self]) := F.cmp_object.ne.bind self
/-- a built-in slot, found at an object's class, bound and called -/
theorem sib_K {M : Model} {id : String} {name : PySem.Str} {args : List Value} {Q : Option Value → Shared → Prop} (X : K.In s.heap) (I : InstAt s.heap x ox C od) (hs : findIn K (.ref C) name = some (some (.builtin id)))
    (hb : bindSpecial (.builtin id) (.ref x) = pure (.builtin id, [.ref x])) (hc : wpAny M A (call (.builtin id) ([.ref x] ++ args)) (fun v => Q (some v)) E s) : wpAny M A (callSpecialIfBound? (.ref x) name args) Q E s := by
  simp only [callSpecialIfBound?, bindSpecialIfBound?]
  apply wpAny_holding
  apply wpAny_bind
  apply wpAny_bind
  apply wpAny_bind
  refine I.type.here ((looks_findIn X hs).here ?_)
  apply wpAny_bind
  apply wpAny_askSetting
  apply wpAny_ite
  have last : wpAny M A (call (.builtin id) ([.ref x] ++ args) >>= fun v => pure (some v)) Q E s := by
    apply wpAny_bind
    exact wpAny_mono hc (fun v s' q => wpAny_pure q) fun _ _ q => q
  split
  · exact wpAny_bind (wpAny_of_eq hb (wpAny_pure last))
  · exact wpAny_tryCatch (wpAny_bind (wpAny_of_eq hb (wpAny_pure last)))
theorem objNe_K {Q : Fin → Shared → Prop} (hu : A.units < cLine) (X : K.In s.heap) (I : InstAt s.heap x ox C od) (hs : findIn K (.ref C) "__eq__" = some (some (.ref f))) (hf : isFn K (.ref f) = true)
    (h : wpAny (model prog w) A (call (.ref f) [.ref x, b]) (fun v s' => ∃ k, v = .bool k ∧ Q (.done (.ret (.bool (!k)))) s') E s) : wpAny (model prog w) A (Builtin.«object.__ne__» ⟨[.ref x, b], []⟩) Q E s := by
  unfold Builtin.«object.__ne__»
  repeat (first
    | with_reducible refine wpAny_cRoomFor hu ?_
    | (refine wpAny_bind (m := callSpecialIfBound? (.ref x) (Str.ofString "__eq__") [b]) (ifBound_K X I hs hf (wpAny_mono h (fun r s' hr => by
          obtain ⟨k, rfl, hq⟩ := hr
          repeat (first | exact hq | exact wpAny_pure hq | exact wpAny_truthy_bool hq | (refine wpAny_bind (m := truthy (.bool _)) (wpAny_truthy_bool ?_)) | wp_step)) fun _ _ e => e)))
    | wp_step)
/-- x != b, by the class's own == -/
theorem ne_own {Q : Value → Shared → Prop} (hu : A.units + 1 < cLine) (F : Fr h₀ L s.heap m) (X₀ : K.In h₀) (I : InstAt s.heap x ox C od) (hb : Looks (model prog w) s.heap (typeOf b) tb) (hn : notFirst K C tb = true)
    (hne : findIn K (.ref C) "__ne__" = some (some (.builtin "object.__ne__"))) (hob : mroIn K C (.type "object") = some true)
    (hs : findIn K (.ref C) "__eq__" = some (some (.ref f))) (hf : isFn K (.ref f) = true)
    (h : wpAny (model prog w) A.in1 (call (.ref f) [.ref x, b]) (fun v s' => ∃ k, v = .bool k ∧ Q (.bool (!k)) s') E s) : wpAny (model prog w) A (compareOp .NotEq (.ref x) b) Q E s := by
  have X := X₀.keeps F.keep
  have iv : Looks (model prog w) s.heap (isInstance (.ref x) (.type "object")) true := I.type.andThen (looks_mroIn X hob)
  have one : wpAny (model prog w) A (tryCompare (.ref x) "__ne__" b) (fun r s' => ∃ v, r = some v ∧ Q v s') E s := by
    unfold tryCompare
    refine wpAny_bind (sib_K X I hne (ne_bind _) (wpAny_call (codeAny_call_builtin PySem.F.cmp_object.ne.plain PySem.F.cmpEntry_ne (@check_slot (model prog w) _ _ _ "object.__ne__" "object" "__ne__" (.ref x) [b] [] _ PySem.F.cmpKind_ne PySem.F.cmpSplit_ne iv (PySem.F.cmpArgs_ne _ _) ?_))))
    refine objNe_K (A := A.in1) hu X I hs hf (wpAny_mono h (fun v s' hv => ?_) fun _ _ z => z)
    obtain ⟨k, rfl, q⟩ := hv
    first | exact ⟨k, rfl, wpAny_pure ⟨_, rfl, q⟩⟩ | exact ⟨k, rfl, wpAny_pure (wpAny_pure ⟨_, rfl, q⟩)⟩
  refine cmp_ofNotEq ?_
  unfold richCompare
  simp only [oneThing_ref]
  refine wpAny_holding (wpAny_bind (wpAny_cRoomFor (by omega) ?_))
  refine wpAny_bind (I.type.here (wpAny_bind (hb.here ?_)))
  have fin : wpAny (model prog w) A (tryCompare (.ref x) "__ne__" b) (fun r s' => ∃ v, r = some v ∧ Q v s') E s := one
  split
  · rename_i q
    have e : subIn K tb (.ref C) = some false := by
      rcases Bool.or_eq_true_iff.mp hn with e | e
      · rw [beq_iff_eq.mp e] at q; simp at q
      · exact beq_iff_eq.mp e
    refine wpAny_bind ((looks_subIn X e).here ?_)
    simp only [Bool.false_eq_true, if_false]
    refine wpAny_bind (wpAny_mono one (fun r s' z => ?_) fun _ _ e => e)
    obtain ⟨v, rfl, hq⟩ := z
    exact wpAny_pure hq
  · refine wpAny_bind (wpAny_pure ?_)
    simp only [Bool.false_eq_true, if_false]
    refine wpAny_bind (wpAny_mono one (fun r s' z => ?_) fun _ _ e => e)
    obtain ⟨v, rfl, hq⟩ := z
    exact wpAny_pure hq
/-- an instance's truth, by the class's own len -/
theorem tru_own {Q : Bool → Shared → Prop} (F : Fr h₀ L s.heap m) (X₀ : K.In h₀) (I : InstAt s.heap x ox C od) (hb : findIn K (.ref C) "__bool__" = some none)
    (hs : findIn K (.ref C) "__len__" = some (some (.ref f))) (hf : isFn K (.ref f) = true)
    (h : wpAny (model prog w) A.in1 (call (.ref f) [.ref x]) (fun v s' => ∃ n t, v = .int n t ∧ (0 ≤ n ∧ n < 2 ^ 63) ∧ Q (n != 0) { s' with toks := s'.toks + 1 }) E s) : wpAny (model prog w) A (truthy (.ref x)) Q E s := by
  have X := X₀.keeps F.keep
  have key : wpAny (model prog w) A (runValue (.builtin "len" ⟨[.ref x], []⟩)) (fun r s' => ∃ n t, r = .int n t ∧ Q (n != 0) s') E s := by
    refine wpAny_runValue (codeAny_builtin entry_len ?_)
    rw [Around.under_plainId plain_len _]
    unfold Builtin.«len»
    refine wpAny_bind (m := oneArg "len" _) (wpAny_pure ?_)
    refine wpAny_bind (m := callSpecial? (.ref x) (Str.ofString "__len__")) (special_fn X I hs (beq_iff_eq.mp hf) (wpAny_mono h (fun r s' hr => ?_) fun _ _ y => y))
    obtain ⟨n, t, rfl, ⟨h0, h1⟩, hq⟩ := hr
    refine wpAny_bind (wpAny_holding (wpAny_pure ?_))
    refine wpAny_bind (wpAny_letGo ?_)
    show wpAny _ _ (if n < 0 then _ else _) _ _ _
    rw [if_neg (by omega)]
    show wpAny _ _ (if n ≥ 2 ^ 63 then _ else _) _ _ _
    rw [if_neg (by omega)]
    exact wpAny_bind (wpAny_mkInt (wpAny_pure ⟨_, _, rfl, hq⟩))
  unfold truthy
  refine wpAny_bind (m := callSpecial? (.ref x) (Str.ofString "__bool__")) (wpAny_bind (wpAny_bind (I.type.here ((looks_findIn X hb).here (wpAny_pure ?_)))))
  refine wpAny_bind (wpAny_bind (I.type.here ((looks_findIn X hs).here ?_)))
  refine wpAny_bind (wpAny_mono key (fun r s' z => ?_) fun _ _ e => e)
  obtain ⟨n, t, rfl, q⟩ := z
  exact wpAny_pure q
end
end MPW
end
section
set_option maxRecDepth 100000
set_option maxHeartbeats 1000000
namespace MP
open PySem PySem.Spec PyProof.Rows L2
section
variable {T : Tab} {P : Prog} {call : Call} {X : Cx} {k : Nat} {pins : List (Addr × Obj)} {σ : L2.St} {H : Hp} {s : Shared}
theorem fr_of (I : Inv X pins σ H s) : ∃ m, PyProof.Rows.Fr X.base X.env.locals s.heap m := by
  obtain ⟨m, hm, _⟩ := I.loc
  exact ⟨m, hm, I.bk, Nat.le_trans I.ok.bsz I.ok.above⟩
theorem en0 {ρ : List Addr} : EnvOk T ρ H [] [] := ⟨rfl, fun i d e => by simp at e⟩
/-- an own method asked for a truth -/
theorem own_spec {ρ : List Addr} {fr c : List Cell} {q : Str} {ds : List D} {vs : List V} {neg : Bool} {Q : VK} (st : StoreOk T ρ H (fr ++ c)) (r : RepL T ρ H vs ds)
    (p : Post T fr (RQ T Q) NoW ρ H ((noExc (call q ds fr.length c)).bind (negR neg))) : spF T call q vs H (fun v H' => ∃ k, v = .bl k ∧ Q (.bl (k != neg)) H') E0 := by
  refine spF_of (T := T) (W := W0) (σ := []) (γ := []) ⟨st, en0, p⟩ r fun ρ1 H1 c1 d v e r g => ?_
  cases d with
  | bl kk => cases r; exact ⟨kk, rfl, g.same (.bl _)⟩
  | _ => exact g.bad.elim
theorem noExc_cmp {q : Str} {ds : List D} {neg : Bool} {b : Nat} {c : List Cell} : noExc ((noExc (call q ds b c)).bind (negR neg)) = (noExc (call q ds b c)).bind (negR neg) := by
  cases call q ds b c with
  | ok d c => cases d <;> rfl
  | _ => rfl
theorem own_in (hK : X.K = T.K) (F : ObF X T P call k) (hr : RoomG k X.A) : OpR X (compareOp .In) (rOwn T P call .In) := by
  intro pins s σ H x y v u Q I rx ry h
  obtain ⟨ρ, fr, c, dx, dy, st, r1, r2, hs, p⟩ := h
  cases hc : classOf fr.length c dy with
  | none =>
    have e : ownCmp P .In fr.length c dx dy = none := by unfold ownCmp; rw [hc]; rfl
    rw [e] at hs; cases hs
  | some cn =>
    cases hm : P.meth cn "__contains__" with
    | none =>
      have e : ownCmp P .In fr.length c dx dy = none := by unfold ownCmp; rw [hc]; show Option.map _ _ = _; rw [hm]; rfl
      rw [e] at hs; cases hs
    | some q =>
      have e : ownCmp P .In fr.length c dx dy = some (q, false, [dy, dx]) := by unfold ownCmp; rw [hc]; show Option.map _ _ = _; rw [hm]; rfl
      unfold cmpX at p
      rw [e] at p
      dsimp only at p
      rw [noExc_cmp] at p
      obtain ⟨a, C, dxx, vs, fs, rfl, hC, ha, hF, _⟩ := r2.insOf st hc
      obtain ⟨C', g, fd, ps, hC', cl, me, FG⟩ := F.meth cn _ q hm
      rw [hC] at hC'; cases hC'
      cases (show u = Value.ref a from ry)
      obtain ⟨m, fr0⟩ := fr_of I
      obtain ⟨mA, O, _, _, _, _⟩ := ins_get I.hok ha
      obtain ⟨od, J, _⟩ := O.look
      refine PySem.W.in_K fr0 I.ok.mod.kin J (hK ▸ me.at_) (hK ▸ me.fn) ?_
      have sp := own_spec (vs := [.ref a, x]) st (.cons r2 (.cons r1 .nil)) p
      refine thn (goP (vs := [.ref a, x]) (us := [.ref a, v]) (dvs := []) (dus := []) FG.ok hr FG.bd .nil pass0 I (.cons rfl (.cons rx .nil)) (by rw [List.append_nil]; exact sp)) fun r s' hq => ?_
      obtain ⟨w, H', I', rw', kk, rfl, q2⟩ := hq
      cases (show r = Value.bool kk from rw')
      refine wpAny_pure ?_
      exact ⟨.bl kk, H', I', rfl, by cases kk <;> exact q2⟩
theorem own_nin (hK : X.K = T.K) (F : ObF X T P call k) (hr : RoomG k X.A) : OpR X (compareOp .NotIn) (rOwn T P call .NotIn) := by
  intro pins s σ H x y v u Q I rx ry h
  obtain ⟨ρ, fr, c, dx, dy, st, r1, r2, hs, p⟩ := h
  cases hc : classOf fr.length c dy with
  | none =>
    have e : ownCmp P .NotIn fr.length c dx dy = none := by unfold ownCmp; rw [hc]; rfl
    rw [e] at hs; cases hs
  | some cn =>
    cases hm : P.meth cn "__contains__" with
    | none =>
      have e : ownCmp P .NotIn fr.length c dx dy = none := by unfold ownCmp; rw [hc]; show Option.map _ _ = _; rw [hm]; rfl
      rw [e] at hs; cases hs
    | some q =>
      have e : ownCmp P .NotIn fr.length c dx dy = some (q, true, [dy, dx]) := by unfold ownCmp; rw [hc]; show Option.map _ _ = _; rw [hm]; rfl
      unfold cmpX at p
      rw [e] at p
      dsimp only at p
      rw [noExc_cmp] at p
      obtain ⟨a, C, dxx, vs, fs, rfl, hC, ha, hF, _⟩ := r2.insOf st hc
      obtain ⟨C', g, fd, ps, hC', cl, me, FG⟩ := F.meth cn _ q hm
      rw [hC] at hC'; cases hC'
      cases (show u = Value.ref a from ry)
      obtain ⟨m, fr0⟩ := fr_of I
      obtain ⟨mA, O, _, _, _, _⟩ := ins_get I.hok ha
      obtain ⟨od, J, _⟩ := O.look
      refine PySem.W.notIn_K fr0 I.ok.mod.kin J (hK ▸ me.at_) (hK ▸ me.fn) ?_
      have sp := own_spec (vs := [.ref a, x]) st (.cons r2 (.cons r1 .nil)) p
      refine thn (goP (vs := [.ref a, x]) (us := [.ref a, v]) (dvs := []) (dus := []) FG.ok hr FG.bd .nil pass0 I (.cons rfl (.cons rx .nil)) (by rw [List.append_nil]; exact sp)) fun r s' hq => ?_
      obtain ⟨w, H', I', rw', kk, rfl, q2⟩ := hq
      cases (show r = Value.bool kk from rw')
      refine wpAny_pure ?_
      exact ⟨.bl (!kk), H', I', rfl, by cases kk <;> exact q2⟩
theorem len_spec {ρ : List Addr} {fr c : List Cell} {q : Str} {ds : List D} {vs : List V} {Q : VK} (st : StoreOk T ρ H (fr ++ c)) (r : RepL T ρ H vs ds)
    (p : Post T fr (RQ T Q) NoW ρ H ((noExc (call q ds fr.length c)).bind lenR)) : spF T call q vs H (fun v H' => ∃ i : Int, v = .int i ∧ (0 ≤ i ∧ i < 2 ^ 63) ∧ Q (.int i) H') E0 := by
  refine spF_of (T := T) (W := W0) (σ := []) (γ := []) ⟨st, en0, p⟩ r fun ρ1 H1 c1 d v e r g => ?_
  cases d with
  | int i =>
    cases r
    have g2 : Got T W0 [] fr [] (RQ T Q) ρ1 H1 c1 (if 0 ≤ i ∧ i < 2 ^ 63 then .ok (.int i) c1 else .bad) := g
    by_cases hz : 0 ≤ i ∧ i < 2 ^ 63
    · rw [if_pos hz] at g2
      exact ⟨i, rfl, hz, g2.same (.int _)⟩
    · rw [if_neg hz] at g2; exact g2.bad.elim
  | _ => exact g.bad.elim
theorem noExc_len {q : Str} {ds : List D} {b : Nat} {c : List Cell} : noExc ((noExc (call q ds b c)).bind lenR) = (noExc (call q ds b c)).bind lenR := by
  cases call q ds b c with
  | ok d c =>
    cases d with
    | int i =>
      show noExc (if 0 ≤ i ∧ i < 2 ^ 63 then Res.ok (D.int i) c else .bad) = (if 0 ≤ i ∧ i < 2 ^ 63 then Res.ok (D.int i) c else .bad)
      split <;> rfl
    | _ => rfl
  | _ => rfl
theorem own_len (hK : X.K = T.K) (F : ObF X T P call k) (hr : RoomG (k + 1) X.A) : CallR X (Bi.vl .len) (rOwnL T P call) := by
  intro pins s σ H xs us Q I r h
  obtain ⟨ρ, fr, c, dx, st, rl, hs, p⟩ := h
  obtain ⟨x, rfl, r1⟩ := rl.one
  cases hc : classOf fr.length c dx with
  | none =>
    have e : ownLen P .len [dx] fr.length c = none := by unfold ownLen; dsimp only; rw [hc]; rfl
    rw [e] at hs; cases hs
  | some cn =>
    have e : ownLen P .len [dx] fr.length c = P.meth cn "__len__" := by unfold ownLen; dsimp only; rw [hc]; rfl
    cases hm : P.meth cn "__len__" with
    | none => rw [e, hm] at hs; cases hs
    | some q =>
      unfold bltX at p
      rw [e, hm] at p
      dsimp only at p
      rw [noExc_len] at p
      obtain ⟨a, C, dxx, vs, fs, rfl, hC, ha, hF, _⟩ := r1.insOf st hc
      obtain ⟨C', g, fd, ps, hC', cl, me, FG⟩ := F.meth cn _ q hm
      rw [hC] at hC'; cases hC'
      cases r with
      | cons rv rr =>
        cases rr
        rename_i u
        cases (show u = Value.ref a from rv)
        obtain ⟨m, fr0⟩ := fr_of I
        obtain ⟨mA, O, _, _, _, _⟩ := ins_get I.hok ha
        obtain ⟨od, J, _⟩ := O.look
        refine PySem.W.len_K fr0 I.ok.mod.kin J (hK ▸ me.at_) (hK ▸ me.fn) ?_
        have sp := len_spec (vs := [.ref a]) st (.cons r1 .nil) p
        have hl : ([Value.ref a] ++ ([] : List Value)).length = ps.length := by
          rw [← FG.ok.len _ _ _ _ sp]; rfl
        refine wpAny_call (codeAny_mono (FG.ok.run X.A.in1 X.stack s H ⟨[.ref a], []⟩ ([Value.ref a] ++ []) [.ref a] _ E0 hr.in1 I.env0.in1 (FG.bd _ [.ref a] I.kIn hl) (.cons rfl .nil) sp) fun r s' hq => ?_)
        cases r with
        | error er => exact False.elim hq
        | ok fl =>
          cases fl with
          | ret u =>
            obtain ⟨v, H', I3, rv, i, rfl, hz, q3⟩ := I.after hq
            obtain ⟨t, rfl⟩ := (show ∃ t, u = Value.int i t from rv)
            exact ⟨hz, ⟨.int i, H', I3.tok _, ⟨_, rfl⟩, q3⟩⟩
          | next => exact False.elim hq
          | brk => exact False.elim hq
          | cont => exact False.elim hq
/-- no other class comes first in a comparison -/
structure EqF (T : Tab) (P : Prog) : Prop where
  ne : ∀ cn C, T.cA cn = some C → (P.meth cn "__eq__").isSome = true → PySem.W.findIn T.K (.ref C) "__ne__" = some (some (.builtin "object.__ne__")) ∧ PySem.W.mroIn T.K C (.type "object") = some true
  tru : ∀ cn C, T.cA cn = some C → (P.meth cn "__len__").isSome = true → PySem.W.findIn T.K (.ref C) "__bool__" = some none
  blt : ∀ cn C m, T.cA cn = some C → m ∈ builtinTys → PySem.W.notFirst T.K C (.type m) = true
  own : ∀ cn C cn' C', T.cA cn = some C → T.cA cn' = some C' → (P.below cn' (.own cn)).isSome = true → PySem.W.notFirst T.K C (.ref C') = true
theorem tyx_of (F : TyF T P) (E : EqF T P) {cn : Str} {C : Addr} (hC : T.cA cn = some C) {ρ : List Addr} {fr c : List Cell} (st : StoreOk T ρ H (fr ++ c)) {v : V} {dd : D} (rv : Rep T ρ H v dd) (h : (isTy P fr.length c dd (.own cn)).isSome = true) : ∃ u, TyX T.K H v u ∧ PySem.W.notFirst T.K C u = true := by
  cases rv with
  | non => exact ⟨_, .base .non, E.blt _ _ _ hC (by decide)⟩
  | bl b => exact ⟨_, .base (.bl b), E.blt _ _ _ hC (by decide)⟩
  | int i => exact ⟨_, .base (.int i), E.blt _ _ _ hC (by decide)⟩
  | str s => exact ⟨_, .base (.str s), E.blt _ _ _ hC (by decide)⟩
  | tup ha hd hn q => exact ⟨_, .fTuple ha, E.blt _ _ _ hC (by decide)⟩
  | tupK hk q =>
    obtain ⟨o, its, n, h1, h2, _⟩ := hk
    exact ⟨_, .kTuple h1 h2, E.blt _ _ _ hC (by decide)⟩
  | lst ha hn q => exact ⟨_, .base (.lst ha), E.blt _ _ _ hC (by decide)⟩
  | dic ha hn q => exact ⟨_, .base (.dK ha), E.blt _ _ _ hC (by decide)⟩
  | @ins a C1 dx cn' vs fs ha hC' hn q =>
    have h1 : (P.below cn' (.own cn)).isSome = true := h
    obtain ⟨r, hr⟩ := Option.isSome_iff_exists.mp h1
    obtain ⟨C2, tv, g1, g2, _, _⟩ := F.ins _ _ _ hr
    rw [hC'] at g1; cases g1
    exact ⟨_, .base (.ins ha g2.cls g2.ha g2.hn g2.htk g2.hm), E.own _ _ _ _ hC hC' h1⟩
  | @ref a n hr =>
    have h1 : (match cellAt fr.length c n with
        | some (.lst _) => tyB "list" (.own cn)
        | some (.ins cn' _) => P.below cn' (.own cn)
        | _ => none).isSome = true := h
    cases hc : cellAt fr.length c n with
    | none => rw [hc] at h1; cases h1
    | some ce =>
      rw [hc] at h1
      obtain ⟨a', ea, _, q⟩ := Rep.cell (.ref hr) st hc
      cases ea
      cases q with
      | lst ha q => exact ⟨_, .base (.lst ha), E.blt _ _ _ hC (by decide)⟩
      | @ins C1 dx cn' vs fs ha hC' q =>
        have h2 : (P.below cn' (.own cn)).isSome = true := h1
        obtain ⟨r, hr2⟩ := Option.isSome_iff_exists.mp h2
        obtain ⟨C2, tv, g1, g2, _, _⟩ := F.ins _ _ _ hr2
        rw [hC'] at g1; cases g1
        exact ⟨_, .base (.ins ha g2.cls g2.ha g2.hn g2.htk g2.hm), E.own _ _ _ _ hC hC' h2⟩
      | exn0 _ _ => cases h1
      | exn _ _ _ _ _ _ => cases h1
  | cls _ => cases h
  | fn _ => cases h
  | scr ha hn => exact ⟨_, .base (.frz ha), E.blt _ _ _ hC (by decide)⟩
  | scrK hk =>
    obtain ⟨o, its, n, h1, h2, _⟩ := hk
    exact ⟨_, .kList h1 h2, E.blt _ _ _ hC (by decide)⟩
theorem own_eq (hK : X.K = T.K) (TF : TyF T P) (EF : EqF T P) (F : ObF X T P call k) (hr : RoomG k X.A) : OpR X (compareOp .Eq) (rOwn T P call .Eq) := by
  intro pins s σ H x y v u Q I rx ry h
  obtain ⟨ρ, fr, c, dx, dy, st, r1, r2, hs, p⟩ := h
  cases hc : classOf fr.length c dx with
  | none =>
    have e : ownCmp P .Eq fr.length c dx dy = none := by unfold ownCmp; rw [hc]; rfl
    rw [e] at hs; cases hs
  | some cn =>
    have e0 : ownCmp P .Eq fr.length c dx dy = if (isTy P fr.length c dy (.own cn)).isSome then (P.meth cn "__eq__").map fun q => (q, false, [dx, dy]) else none := by unfold ownCmp; rw [hc]; rfl
    by_cases ht : (isTy P fr.length c dy (.own cn)).isSome = true
    · rw [if_pos ht] at e0
      cases hm : P.meth cn "__eq__" with
      | none => rw [e0, hm] at hs; cases hs
      | some q =>
        rw [hm] at e0
        unfold cmpX at p
        rw [e0] at p
        dsimp only [Option.map] at p
        rw [noExc_cmp] at p
        obtain ⟨a, C, dxx, vs, fs, rfl, hC, ha, hF, _⟩ := r1.insOf st hc
        obtain ⟨C', g, fd, ps, hC', cl, me, FG⟩ := F.meth cn _ q hm
        rw [hC] at hC'; cases hC'
        cases (show v = Value.ref a from rx)
        obtain ⟨t, tx, nf⟩ := tyx_of TF EF hC st r2 ht
        obtain ⟨Pr, Z, hp, _⟩ := kit_of I ry (hK ▸ tx)
        obtain ⟨m, fr0⟩ := fr_of I
        obtain ⟨mA, O, _, _, _, _⟩ := ins_get I.hok ha
        obtain ⟨od, J, _⟩ := O.look
        have hu : X.A.units < cLine := hr.units0
        refine PySem.W.cmp_ofEq (PySem.W.cmp_K hu fr0 I.ok.mod.kin J (Z.ty _ _ I.kIn hp) (hK ▸ nf) (hK ▸ me.at_) (hK ▸ me.fn) ?_)
        have sp := own_spec (vs := [.ref a, y]) st (.cons r1 (.cons r2 .nil)) p
        refine thn (goP (vs := [.ref a, y]) (us := [.ref a, u]) (dvs := []) (dus := []) FG.ok hr FG.bd .nil pass0 I (.cons rfl (.cons ry .nil)) (by rw [List.append_nil]; exact sp)) fun r s' hq => ?_
        obtain ⟨w, H', I', rw', kk, rfl, q2⟩ := hq
        cases (show r = Value.bool kk from rw')
        exact ⟨.bl kk, H', I', rfl, by cases kk <;> exact q2⟩
    · rw [if_neg ht] at e0
      rw [e0] at hs; cases hs
/-- x != y by the own == -/
theorem own_ne (hK : X.K = T.K) (TF : TyF T P) (EF : EqF T P) (F : ObF X T P call k) (hr : RoomG (k + 1) X.A) : OpR X (compareOp .NotEq) (rOwn T P call .NotEq) := by
  intro pins s σ H x y v u Q I rx ry h
  obtain ⟨ρ, fr, c, dx, dy, st, r1, r2, hs, p⟩ := h
  cases hc : classOf fr.length c dx with
  | none =>
    have e : ownCmp P .NotEq fr.length c dx dy = none := by unfold ownCmp; rw [hc]; rfl
    rw [e] at hs; cases hs
  | some cn =>
    have e0 : ownCmp P .NotEq fr.length c dx dy = if (isTy P fr.length c dy (.own cn)).isSome then (P.meth cn "__eq__").map fun q => (q, true, [dx, dy]) else none := by unfold ownCmp; rw [hc]; rfl
    by_cases ht : (isTy P fr.length c dy (.own cn)).isSome = true
    · rw [if_pos ht] at e0
      cases hm : P.meth cn "__eq__" with
      | none => rw [e0, hm] at hs; cases hs
      | some q =>
        rw [hm] at e0
        unfold cmpX at p
        rw [e0] at p
        dsimp only [Option.map] at p
        rw [noExc_cmp] at p
        obtain ⟨a, C, dxx, vs, fs, rfl, hC, ha, hF, _⟩ := r1.insOf st hc
        obtain ⟨C', g, fd, ps, hC', cl, me, FG⟩ := F.meth cn _ q hm
        rw [hC] at hC'; cases hC'
        cases (show v = Value.ref a from rx)
        obtain ⟨t, tx, nf⟩ := tyx_of TF EF hC st r2 ht
        obtain ⟨n1, n2⟩ := EF.ne cn C hC (by rw [hm]; rfl)
        obtain ⟨Pr, Z, hp, _⟩ := kit_of I ry (hK ▸ tx)
        obtain ⟨m, fr0⟩ := fr_of I
        obtain ⟨mA, O, _, _, _, _⟩ := ins_get I.hok ha
        obtain ⟨od, J, _⟩ := O.look
        have hu : X.A.units + 1 < cLine := by have := hr.un; omega
        refine MPW.ne_own hu fr0 I.ok.mod.kin J (Z.ty _ _ I.kIn hp) (hK ▸ nf) (hK ▸ n1) (hK ▸ n2) (hK ▸ me.at_) (hK ▸ me.fn) ?_
        have sp := own_spec (vs := [.ref a, y]) st (.cons r1 (.cons r2 .nil)) p
        have both : Vals [V.ref a, y] [Value.ref a, u] := .cons rfl (.cons ry .nil)
        have hl : ([Value.ref a, u] ++ ([] : List Value)).length = ps.length := by
          rw [← FG.ok.len _ _ _ _ sp]; rfl
        have go := FG.ok.run X.A.in1 X.stack s H ⟨[.ref a, u], []⟩ ([Value.ref a, u] ++ []) [.ref a, y] _ E0 hr.in1 I.env0.in1 (FG.bd _ [.ref a, u] I.kIn hl) both sp
        refine wpAny_call (codeAny_mono go fun res t z => ?_)
        rcases res with er | fl
        · exact z.elim
        · cases fl with
          | ret w =>
            obtain ⟨vv, H', I3, rv, kk, rfl, q2⟩ := I.after z
            cases (show w = Value.bool kk from rv)
            exact ⟨kk, rfl, .bl (!kk), H', I3, rfl, by cases kk <;> exact q2⟩
          | next => exact z.elim
          | brk => exact z.elim
          | cont => exact z.elim
    · rw [if_neg ht] at e0
      rw [e0] at hs; cases hs
theorem noExc_tru {q : Str} {ds : List D} {b : Nat} {c : List Cell} : noExc ((noExc (call q ds b c)).bind truR) = (noExc (call q ds b c)).bind truR := by
  cases call q ds b c with
  | ok d c =>
    cases d with
    | int i =>
      show noExc (if 0 ≤ i ∧ i < 2 ^ 63 then Res.ok (i != 0) c else .bad) = (if 0 ≤ i ∧ i < 2 ^ 63 then Res.ok (i != 0) c else .bad)
      split <;> rfl
    | _ => rfl
  | _ => rfl
theorem tru_spec {ρ : List Addr} {fr c : List Cell} {q : Str} {ds : List D} {vs : List V} {Q : Bool → Hp → Prop} (st : StoreOk T ρ H (fr ++ c)) (r : RepL T ρ H vs ds)
    (p : Post T fr (fun _ H k => Q k H) NoW ρ H ((noExc (call q ds fr.length c)).bind truR)) : spF T call q vs H (fun v H' => ∃ i : Int, v = .int i ∧ (0 ≤ i ∧ i < 2 ^ 63) ∧ Q (i != 0) H') E0 := by
  refine spF_of (T := T) (W := W0) (σ := []) (γ := []) (R := fun _ H k => Q k H) ⟨st, en0, p⟩ r fun ρ1 H1 c1 d v e r g => ?_
  cases d with
  | int i =>
    cases r
    have g2 : Got T W0 [] fr [] (fun _ H k => Q k H) ρ1 H1 c1 (if 0 ≤ i ∧ i < 2 ^ 63 then .ok (i != 0) c1 else .bad) := g
    by_cases hz : 0 ≤ i ∧ i < 2 ^ 63
    · rw [if_pos hz] at g2
      exact ⟨i, rfl, hz, g2.p ρ1 H1 (Ext.refl _ _) g2.st⟩
    · rw [if_neg hz] at g2; exact g2.bad.elim
  | _ => exact g.bad.elim
/-- an instance as a test -/
theorem own_tru (hK : X.K = T.K) (EF : EqF T P) (F : ObF X T P call k) (hr : RoomG (k + 1) X.A) : TrR X (rTX T P call) := by
  intro pins s σ H x v Q I rv0 h
  obtain ⟨ρ, fr, c, d, st, r1, p⟩ := h
  have other : (match (classOf fr.length c d).bind fun cn => P.meth cn "__len__" with
      | some q => (noExc (call q [d] fr.length c)).bind truR
      | none => .bad) = truX P call d fr.length c → wpAny (model X.prog X.w) X.A (truthy v) (TP X pins σ Q) X.xe s := fun e => by
    rw [← e] at p
    cases hc : classOf fr.length c d with
    | none => rw [hc] at p; exact p.elim
    | some cn =>
      rw [hc] at p
      have p1 : Post T fr (fun _ H k => Q k H) NoW ρ H (noExc (match P.meth cn "__len__" with
        | some q => (noExc (call q [d] fr.length c)).bind truR
        | none => .bad)) := p
      cases hm : P.meth cn "__len__" with
      | none => rw [hm] at p1; exact p1.elim
      | some q =>
        rw [hm] at p1
        dsimp only at p1
        rw [noExc_tru] at p1
        obtain ⟨a, C, dxx, vs, fs, rfl, hC, ha, hF, _⟩ := r1.insOf st hc
        obtain ⟨C', g, fd, ps, hC', cl, me, FG⟩ := F.meth cn _ q hm
        rw [hC] at hC'; cases hC'
        cases (show v = Value.ref a from rv0)
        obtain ⟨m, fr0⟩ := fr_of I
        obtain ⟨mA, O, _, _, _, _⟩ := ins_get I.hok ha
        obtain ⟨od, J, _⟩ := O.look
        refine MPW.tru_own fr0 I.ok.mod.kin J (hK ▸ EF.tru cn C hC (by rw [hm]; rfl)) (hK ▸ me.at_) (hK ▸ me.fn) ?_
        have sp := tru_spec (vs := [.ref a]) st (.cons r1 .nil) p1
        have hl : ([Value.ref a] ++ ([] : List Value)).length = ps.length := by
          rw [← FG.ok.len _ _ _ _ sp]; rfl
        have go := FG.ok.run X.A.in1 X.stack s H ⟨[.ref a], []⟩ ([Value.ref a] ++ []) [.ref a] _ E0 hr.in1 I.env0.in1 (FG.bd _ [.ref a] I.kIn hl) (.cons rfl .nil) sp
        refine wpAny_call (codeAny_mono go fun res t z => ?_)
        rcases res with er | fl
        · exact z.elim
        · cases fl with
          | ret w =>
            obtain ⟨vv, H', I3, rv, i, rfl, hz, q3⟩ := I.after z
            obtain ⟨t', rfl⟩ := (show ∃ t, w = Value.int i t from rv)
            exact ⟨i, t', rfl, hz, H', I3.tok _, q3⟩
          | next => exact z.elim
          | brk => exact z.elim
          | cont => exact z.elim
  cases d with
  | bl k =>
    cases r1
    cases rv0
    have p1 : Post T fr (fun _ H k => Q k H) NoW ρ H (.ok k c) := p
    exact wpAny_truthy_bool ⟨H, I, p1 ρ H (Ext.refl _ _) st⟩
  | _ => exact other rfl
end
section
variable {S : Site} {T : Tab} {P : Prog} {G : Gb} {n : Nat} {X : Cx}
theorem obF_of (Fc : Facts S T P G) (hA : AllOk S T P G n) (hX : S.at T X) (h : List Addr) : ObF X (T.hide h) P (calls P n) (2 * n) where
  fld := Fc.fld
  prop := fun cn f q e => by
    obtain ⟨C, p, F, fa, fd, ps, h1, h2, h3, h4, h5⟩ := Fc.prop cn f q e
    exact ⟨C, p, fa, fd, ps, h1, h2, h3, fnG_at hA hX h4 h5 h⟩
  meth := fun cn m q e => by
    obtain ⟨C, F, fa, fd, ps, h1, h2, h3, h4, h5⟩ := Fc.meth cn m q e
    exact ⟨C, fa, fd, ps, h1, h2, h3, fnG_at hA hX h4 h5 h⟩
theorem EqF.hide {hh : List Addr} (E : EqF T P) : EqF (T.hide hh) P := ⟨E.ne, E.tru, E.blt, E.own⟩
theorem op_void {call : Call} {op : CmpOp} (hn : ∀ b c x y, ownCmp P op b c x y = none) : OpR X (compareOp op) (rOwn T P call op) := by
  intro pins s σ H x y v u Q I rx ry h
  obtain ⟨ρ, fr, c, dx, dy, _, _, _, hs, _⟩ := h
  rw [hn] at hs
  cases hs
/-- what own methods do -/
theorem ownOk (Fc : Facts S T P G) (EF : EqF T P) : OwnOk S T P G := fun n hA X hX hr h => by
  have ob := obF_of Fc hA hX h
  have hr0 : RoomG (2 * n) X.A := hr.mono (Nat.le_succ _)
  refine ⟨fun op => ?_, own_len (T := T.hide h) hX.2.2.1 ob hr, own_tru (T := T.hide h) hX.2.2.1 EF.hide ob hr⟩
  cases op with
  | Eq => exact own_eq (T := T.hide h) hX.2.2.1 Fc.ty.hide EF.hide ob hr0
  | NotEq => exact own_ne (T := T.hide h) hX.2.2.1 Fc.ty.hide EF.hide ob hr
  | In => exact own_in (T := T.hide h) hX.2.2.1 ob hr0
  | NotIn => exact own_nin (T := T.hide h) hX.2.2.1 ob hr0
  | _ => exact op_void fun _ _ _ _ => rfl
/-- all defs keep their promises -/
theorem all_defs (Fc : Facts S T P G) (EF : EqF T P) (n : Nat) : AllOk S T P G n := allOk Fc (ownOk Fc EF) n
end
end MP
end
section
set_option maxRecDepth 100000
set_option maxHeartbeats 1000000
namespace MP
open PySem PySem.Spec PyProof.Rows L2

/-- one def: its key, its class, its name there, is it a property, what it is made of -/
structure HDef where
  key : Str
  own : Option Str
  nm : Str
  prop : Bool
  fname : Str
  qual : Str
  st : Stmt
  N : List Str
  ps : List Str
  mode : Mode
  lam : Bool
  dfl : List MP.K
structure HSpec where
  defs : List HDef
  gfn : List (Str × Str)
  gcl : List Str
  gcon : List (Str × MP.K)
  gkd : List (Str × List (Str × MP.K))
  gfree : List Str
  fld : List (Str × Str)
  ini0 : List Str
  below : List ((Str × Ty) × Bool)
  kw : List ((Str × Nat × List Str) × (List Nat × List Nat))
  mt : Pos → Bool
  fuel : Nat
def HSpec.def? (s : HSpec) (q : Str) : Option HDef := s.defs.find? fun d => decide (d.key = q)
def HSpec.dv (s : HSpec) (q : Str) (m : Nat) : Option (List MP.K) := (s.def? q).bind fun d => if d.ps.length ≤ m + d.dfl.length ∧ m ≤ d.ps.length then some (d.dfl.drop (m + d.dfl.length - d.ps.length)) else none
def HSpec.ini (s : HSpec) (c : Str) : Option Str := (s.defs.find? fun d => decide (d.own = some c ∧ d.nm = ("__init__" : Str) ∧ d.prop = false)).map (·.key)
def HSpec.G (s : HSpec) : Gb where
  fn := fun n => (s.gfn.find? fun p => decide (p.1 = n)).map (·.2)
  dv := s.dv
  cl := fun n => if n ∈ s.gcl then some n else none
  con := fun n => (s.gcon.find? fun p => decide (p.1 = n)).map (·.2)
  kd := fun n => (s.gkd.find? fun p => decide (p.1 = n)).map (·.2)
  init := s.ini
  ini0 := fun n => decide (n ∈ s.ini0)
  free := fun n => decide (n ∈ s.gfree)
  mt := s.mt
def HDef.fun (s : HSpec) (d : HDef) : Fun := ⟨d.N, d.ps.length, cSs s.G ⟨d.N, defScope d.st, defScope d.st, d.lam⟩ s.fuel (defBody d.st), d.mode⟩
def HSpec.P (s : HSpec) : Prog where
  fun? := fun q => (s.def? q).map (HDef.fun s)
  prop := fun c f => (s.defs.find? fun d => decide (d.own = some c ∧ d.nm = f ∧ d.prop = true)).map (·.key)
  meth := fun c f => (s.defs.find? fun d => decide (d.own = some c ∧ d.nm = f ∧ d.prop = false)).map (·.key)
  cmeth := fun _ _ => none
  fld := fun c f => decide ((c, f) ∈ s.fld)
  init := fun c => if c ∈ s.ini0 then some none else (s.ini c).map some
  exc := fun _ => false
  below := fun c t => (s.below.find? fun p => decide (p.1 = (c, t))).map (·.2)
  kw := fun q n ks => (s.kw.find? fun p => decide (p.1 = (q, n, ks))).bind fun p => (s.def? q).map fun d => (p.2.1, (pick p.2.2 d.dfl).map K.toD)
def prF (K : PySem.W.Frag) (p : Addr) : Addr := match PySem.W.recIn K p "property" with
  | some (.ref f :: _) => f
  | _ => 0
def HDef.addr (K : PySem.W.Frag) (d : HDef) : Addr := match d.own with
  | none => He.ga K d.nm
  | some C => if d.prop then prF K (He.ma K (He.ga K C) d.nm) else He.ma K (He.ga K C) d.nm
def HSpec.fA (s : HSpec) (K : PySem.W.Frag) (q : Str) : Option Addr := (s.def? q).map (HDef.addr K)
def HSpec.cA (s : HSpec) (K : PySem.W.Frag) (c : Str) : Option Addr := if c ∈ s.gcl then some (He.ga K c) else none
def HDef.code (K : PySem.W.Frag) (d : HDef) : Addr := match K.lookup (d.addr K) with
  | some ⟨_, _, .func fd, _⟩ => (match fd.code with
    | .ref c => c
    | _ => 0)
  | _ => 0
def HDef.tab (K : PySem.W.Frag) (d : HDef) : Addr := He.tabOf K (d.code K)
def HDef.lamName (d : HDef) : Str := (d.qual ++ ".<locals>.") ++ "<lambda>"
def HSpec.T (s : HSpec) (K : PySem.W.Frag) : Tab := ⟨K, s.cA K, s.fA K, (s.defs.filter (·.lam)).map fun d => (d.tab K, d.lamName), [], lpOf s.G⟩
mutual
def repB (K : PySem.W.Frag) (fA : Str → Option Addr) : MP.K → Value → Bool
  | .non, .none => true
  | .bl b, .bool c => b == c
  | .int i, .int j _ => decide (i = j)
  | .str x, .str y _ => decide (x = y)
  | .fn f, .ref a => decide (fA f = some a)
  | .tup xs, .ref a => (match K.lookup a with
    | some ⟨.type c, none, .seq its _, _⟩ => decide (c = "tuple") && (decide (its.size ≤ sizeLine) && repBs K fA xs its.toList)
    | _ => false)
  | _, _ => false
def repBs (K : PySem.W.Frag) (fA : Str → Option Addr) : List MP.K → List Value → Bool
  | [], [] => true
  | x :: xs, u :: us => repB K fA x u && repBs K fA xs us
  | _, _ => false
end
theorem two {a b : Bool} (h : (a && b) = true) : a = true ∧ b = true := Bool.and_eq_true_iff.mp h
mutual
theorem repB_ok {T : Tab} : ∀ {x : MP.K} {u : Value}, repB T.K T.fA x u = true → ∃ v, RelV v u ∧ ∀ h ρ H, Rep (T.hide h) ρ H v x.toD
  | .non, u, q => by cases u <;> first | exact ⟨.non, rfl, fun _ _ _ => .non⟩ | (unfold repB at q; cases q)
  | .bl b, u, q => by
    cases u with
    | bool c =>
      unfold repB at q
      have e : b = c := eq_of_beq q
      exact ⟨.bl b, by rw [e]; rfl, fun _ _ _ => .bl b⟩
    | _ => unfold repB at q; cases q
  | .int i, u, q => by
    cases u with
    | int j t =>
      unfold repB at q
      exact ⟨.int i, ⟨t, by rw [of_decide_eq_true q]⟩, fun _ _ _ => .int i⟩
    | _ => unfold repB at q; cases q
  | .str x, u, q => by
    cases u with
    | str y t =>
      unfold repB at q
      exact ⟨.str x, ⟨t, by rw [of_decide_eq_true q]⟩, fun _ _ _ => .str x⟩
    | _ => unfold repB at q; cases q
  | .fn f, u, q => by
    cases u with
    | ref a =>
      unfold repB at q
      exact ⟨.ref a, rfl, fun _ _ _ => .fn (of_decide_eq_true q)⟩
    | _ => unfold repB at q; cases q
  | .tup xs, u, q => by
    cases u with
    | ref a =>
      unfold repB at q
      cases hl : T.K.lookup a with
      | none => rw [hl] at q; cases q
      | some o =>
        obtain ⟨oc, od, dt, sl⟩ := o
        rw [hl] at q
        cases oc with
        | type c =>
          cases od with
          | none =>
            cases dt with
            | seq its n =>
              obtain ⟨h1, h2⟩ := two q
              obtain ⟨h3, h4⟩ := two h2
              obtain ⟨vs, r1, r2⟩ := repBs_ok h4
              have e : c = "tuple" := of_decide_eq_true h1
              subst e
              exact ⟨.ref a, rfl, fun h ρ H => .tupK ⟨_, its, n, hl, rfl, rfl, rfl, of_decide_eq_true h3, r1⟩ (r2 h ρ H)⟩
            | _ => cases q
          | some _ => cases dt <;> cases q
        | _ => cases od <;> cases dt <;> cases q
    | _ => unfold repB at q; cases q
  | .dic kvs, u, q => by cases u <;> (unfold repB at q; cases q)
theorem repBs_ok {T : Tab} : ∀ {xs : List MP.K} {us : List Value}, repBs T.K T.fA xs us = true → ∃ vs, Vals vs us ∧ ∀ h ρ H, RepL (T.hide h) ρ H vs (K.toDs xs)
  | [], [], _ => ⟨[], .nil, fun _ _ _ => .nil⟩
  | [], _ :: _, q => by unfold repBs at q; cases q
  | _ :: _, [], q => by unfold repBs at q; cases q
  | x :: xs, u :: us, q => by
    unfold repBs at q
    obtain ⟨h1, h2⟩ := two q
    obtain ⟨v, r1, r2⟩ := repB_ok h1
    obtain ⟨vs, r3, r4⟩ := repBs_ok h2
    exact ⟨v :: vs, .cons r1 r3, fun h ρ H => .cons (r2 h ρ H) (r4 h ρ H)⟩
end
theorem toDs_map : ∀ xs : List MP.K, K.toDs xs = xs.map K.toD
  | [] => rfl
  | x :: xs => by unfold K.toDs; rw [toDs_map xs]; rfl
def kdB (K : PySem.W.Frag) (fA : Str → Option Addr) (a : Addr) (kvs : List (Str × MP.K)) : Bool := match K.lookup a with
  | some ⟨_, _, .dict es _, _⟩ => kdE es.toList kvs
  | _ => false
where kdE : List DictEntry → List (Str × MP.K) → Bool
  | [], [] => true
  | e :: es, (k, x) :: kvs => (match e.key with
    | .str y _ => decide (y = k)
    | _ => false) && (repB K fA x e.val && kdE es kvs)
  | _, _ => false
theorem kdE_look {K : PySem.W.Frag} {fA : Str → Option Addr} (z : Str) : ∀ {es : List DictEntry} {kvs : List (Str × MP.K)}, kdB.kdE K fA es kvs = true →
    (∀ e ∈ es, e.refKey = false) ∧ (kvs.lookup z = none → es.find? (·.key.isStr z) = none) ∧ ∀ k, kvs.lookup z = some k → ∃ e, es.find? (·.key.isStr z) = some e ∧ repB K fA k e.val = true
  | [], [], _ => ⟨fun e h => (nomatch h), fun _ => rfl, fun k h => by cases h⟩
  | [], _ :: _, h => by cases h
  | _ :: _, [], h => by cases h
  | e :: es, (k, x) :: kvs, h => by
    obtain ⟨h1, h2⟩ := two h
    obtain ⟨h3, h4⟩ := two h2
    obtain ⟨g1, g2, g3⟩ := kdE_look z h4
    cases hk : e.key with
    | str y t =>
      rw [hk] at h1
      have ey : y = k := of_decide_eq_true h1
      have rk : e.refKey = false := by unfold DictEntry.refKey; rw [hk]
      have is : e.key.isStr z = (y == z) := by rw [hk]; rfl
      rw [List.lookup_cons, List.find?_cons, is, ey]
      refine And.intro (fun e2 he => ?_) ?_
      · rcases List.mem_cons.mp he with hz | hz
        · rw [hz]; exact rk
        · exact g1 e2 hz
      · by_cases q : z = k
        · have q1 : (z == k) = true := beq_iff_eq.mpr q
          have q2 : (k == z) = true := beq_iff_eq.mpr q.symm
          rw [q1, q2]
          exact And.intro (fun w => by cases w) fun k2 hk2 => ⟨e, rfl, by cases hk2; exact h3⟩
        · have q1 : (z == k) = false := beq_eq_false_iff_ne.mpr q
          have q2 : (k == z) = false := beq_eq_false_iff_ne.mpr fun w => q w.symm
          rw [q1, q2]
          exact And.intro g2 g3
    | _ => rw [hk] at h1; cases h1
theorem kdB_look {K : PySem.W.Frag} {fA : Str → Option Addr} {a : Addr} {kvs : List (Str × MP.K)} (h : kdB K fA a kvs = true) (z : Str) :
    (kvs.lookup z = none → PySem.W.nsIn K a z = some none) ∧ ∀ k, kvs.lookup z = some k → ∃ u, PySem.W.nsIn K a z = some (some u) ∧ repB K fA k u = true := by
  unfold kdB at h
  cases hl : K.lookup a with
  | none => rw [hl] at h; cases h
  | some o =>
    obtain ⟨oc, od, dt, sl⟩ := o
    rw [hl] at h
    cases dt with
    | dict es n =>
      obtain ⟨g1, g2, g3⟩ := kdE_look z (show kdB.kdE K fA es.toList kvs = true from h)
      have hn : PySem.W.nsIn K a z = (match es.toList.find? (·.key.isStr z) with
        | some e => some (some e.val)
        | none => if es.toList.any (·.refKey) then none else some none) := by unfold PySem.W.nsIn; rw [hl]; rfl
      refine ⟨fun q => ?_, fun k q => ?_⟩
      · rw [hn, g2 q]
        have : es.toList.any (·.refKey) = false := by
          rw [List.any_eq_false]
          exact fun e he => by rw [g1 e he]; decide
        dsimp only
        rw [this]
        rfl
      · obtain ⟨e, h1, h2⟩ := g3 k q
        exact ⟨e.val, by rw [hn, h1], h2⟩
    | _ => cases h
def eqV (a b : Option (Option Value)) : Bool := decide (a = b)
theorem eqV_ok {a b : Option (Option Value)} (h : eqV a b = true) : a = b := of_decide_eq_true h
def clsB (K : PySem.W.Frag) (C : Addr) : Bool := PySem.W.plainGet K C Str.empty && (PySem.W.hasDictIn K C && (PySem.W.plainOver K C && eqV (PySem.W.findIn K (.ref C) "__setattr__") (some (some (.builtin "object.__setattr__")))))
theorem clsB_ok {K : PySem.W.Frag} {C : Addr} (h : clsB K C = true) : Cls K C := by
  obtain ⟨a, h⟩ := two h
  obtain ⟨b, h⟩ := two h
  obtain ⟨c, d⟩ := two h
  exact ⟨a, b, c, eqV_ok d⟩
/-- a class: its name, what isinstance asks -/
def gclB (K : PySem.W.Frag) (c : Str) : Bool := eqV (PySem.W.nsIn K mainGlobals c) (some (some (.ref (He.ga K c)))) && (builtinTys.all fun m => decide (PySem.W.kitOne K (.type m) (.ref (He.ga K c)) = some false))
def instB (K : PySem.W.Frag) (C : Addr) : Bool := clsB K C && (eqV (PySem.W.findIn K (.ref C) "__class__") (some (some (.builtin "object.__class__"))) && (eqV (PySem.W.specialIn K (.builtin "object.__class__") "__get__") (some (some (.builtin "getset_descriptor.__get__"))) &&
  (decide (PySem.W.takesIn K (.builtin "object.__class__") = some true) && decide (PySem.W.mroIn K C (.type "object") = some true))))
theorem instB_ok {K : PySem.W.Frag} {C : Addr} (h : instB K C = true) : InsT K C := by
  obtain ⟨a, h⟩ := two h
  obtain ⟨b, h⟩ := two h
  obtain ⟨c, h⟩ := two h
  obtain ⟨d, e⟩ := two h
  exact ⟨clsB_ok a, eqV_ok b, eqV_ok c, of_decide_eq_true d, of_decide_eq_true e⟩
section
variable (s : HSpec)
def HDef.propB (K : PySem.W.Frag) (d : HDef) : Bool := match d.own with
  | none => false
  | some C => clsB K (He.ga K C) && (eqV (PySem.W.findIn K (.ref (He.ga K C)) d.nm) (some (some (.ref (He.ma K (He.ga K C) d.nm)))) && (eqV (PySem.W.specialIn K (.ref (He.ma K (He.ga K C) d.nm)) "__get__") (some (some (.builtin "property.__get__"))) &&
      (decide (PySem.W.takesIn K (.ref (He.ma K (He.ga K C) d.nm)) = some true) && (match PySem.W.recIn K (He.ma K (He.ga K C) d.nm) "property" with
        | some (.ref _ :: _) => true
        | _ => false))))
def HDef.methB (K : PySem.W.Frag) (d : HDef) : Bool := match d.own with
  | none => false
  | some C => clsB K (He.ga K C) && (eqV (PySem.W.findIn K (.ref (He.ga K C)) d.nm) (some (some (.ref (d.addr K)))) && (if d.nm = ("__init__" : Str) then PySem.W.makesIn K (He.ga K C) && PySem.W.keepIn K (.ref (He.ga K C)) else true))
def HDef.objB (K : PySem.W.Frag) (d : HDef) : Bool := PySem.W.keepIn K (.ref (d.addr K)) && (PySem.W.isFn K (.ref (d.addr K)) && (match K.lookup (d.addr K) with
  | some ⟨_, _, .func fd, _⟩ => PySem.W.codeIn K fd.code d.qual && (match d.dfl, fd.defaults with
    | [], .none => true
    | [], _ => false
    | x :: xs, .ref a => (match K.lookup a with
      | some ⟨_, _, .seq its _, _⟩ => repBs K (s.fA K) (x :: xs) its.toList
      | _ => false)
    | _ :: _, _ => false)
  | _ => false))
def HDef.okB (K : PySem.W.Frag) (d : HDef) : Bool := d.objB s K && ((match d.own with
  | none => true
  | some C => decide (C ∈ s.gcl)) && (match d.own with
  | none => true
  | some _ => if d.prop then d.propB K else d.methB K))
def mk0B (K : PySem.W.Frag) (c : Str) : Bool := decide (c ∈ s.gcl) && (PySem.W.makesIn K (He.ga K c) && (eqV (PySem.W.findIn K (.ref (He.ga K c)) "__init__") (some (some (.builtin "object.__init__"))) && PySem.W.keepIn K (.ref (He.ga K c))))
def tyAt (K : PySem.W.Frag) : Ty → Value
  | .blt n => .type n
  | .own c => .ref (He.ga K c)
def tyIn : Ty → Bool
  | .blt _ => true
  | .own c => decide (c ∈ s.gcl)
def belowB (K : PySem.W.Frag) (p : (Str × Ty) × Bool) : Bool := decide (p.1.1 ∈ s.gcl) && (tyIn s p.1.2 && (instB K (He.ga K p.1.1) && (decide (PySem.W.kitOne K (.ref (He.ga K p.1.1)) (tyAt K p.1.2) = some p.2) && (match p.1.2 with
  | .blt _ => true
  | .own c => PySem.W.notFirst K (He.ga K c) (.ref (He.ga K p.1.1))))))
def firstB (K : PySem.W.Frag) (c : Str) : Bool := builtinTys.all fun m => PySem.W.notFirst K (He.ga K c) (.type m)
def eqMB (K : PySem.W.Frag) (d : HDef) : Bool := match d.own with
  | none => true
  | some C => (if d.nm = ("__eq__" : Str) then eqV (PySem.W.findIn K (.ref (He.ga K C)) "__ne__") (some (some (.builtin "object.__ne__"))) && decide (PySem.W.mroIn K (He.ga K C) (.type "object") = some true) else true) &&
      (if d.nm = ("__len__" : Str) then eqV (PySem.W.findIn K (.ref (He.ga K C)) "__bool__") (some none) else true)
/-- all that is asked of the written part -/
def HSpec.okB (K : PySem.W.Frag) : Bool :=
  (s.defs.all fun d => d.okB s K && eqMB K d) &&
  ((s.gfn.all fun p => match s.fA K p.2 with
    | some a => eqV (PySem.W.nsIn K mainGlobals p.1) (some (some (.ref a)))
    | none => false) &&
  ((s.gcl.all fun c => gclB K c && firstB K c) &&
  ((s.gcon.all fun p => match PySem.W.nsIn K mainGlobals p.1 with
    | some (some u) => repB K (s.fA K) p.2 u
    | _ => false) &&
  ((s.gkd.all fun p => eqV (PySem.W.nsIn K mainGlobals p.1) (some (some (.ref (He.ga K p.1)))) && kdB K (s.fA K) (He.ga K p.1) p.2) &&
  ((s.gfree.all fun x => eqV (PySem.W.nsIn K mainGlobals x) (some none) && decide (x ≠ ("__name__" : Str))) &&
  ((s.fld.all fun p => decide (p.1 ∈ s.gcl) && (clsB K (He.ga K p.1) && eqV (PySem.W.findIn K (.ref (He.ga K p.1)) p.2) (some none))) &&
  ((s.ini0.all fun c => mk0B s K c) && (s.below.all fun p => belowB s K p))))))))
end
end MP
end
section
set_option maxRecDepth 100000
set_option maxHeartbeats 1000000
namespace MP
open PySem PySem.Spec PyProof.Rows L2
def HDef.mkFn (d : HDef) (dV kV doc pm : Value) (an : Option Addr) (cdv ct : Value) : FuncData := PySem.W.fnOf d.fname d.qual (defArgs d.st) (defBody d.st) (defScope d.st) dV kV doc pm an cdv ct
def HDef.At0 (d : HDef) : Prop := ∀ (kV doc pm : Value) (an : Option Addr) (cdv ct : Value) (us : List Value), us.length = d.ps.length → bindArgs (d.mkFn .none kV doc pm an cdv ct) ⟨us, []⟩ = pure (d.ps.zip us)
def HDef.At1 (d : HDef) (m : Nat) : Prop := ∀ (tup : Addr) (kV doc pm : Value) (an : Option Addr) (cdv ct : Value) (us its : List Value), us.length = m → its.length = d.dfl.length →
  ∃ k, bindArgs (d.mkFn (.ref tup) kV doc pm an cdv ct) ⟨us, []⟩ = seqItems? (.ref tup) >>= k ∧ k (some its.toArray) = pure (d.ps.zip (us ++ its.drop (m + d.dfl.length - d.ps.length)))
def HDef.Kw0 (d : HDef) (n : Nat) (ks : List Str) (ix : List Nat) : Prop := ∀ (kV doc pm : Value) (an : Option Addr) (cdv ct : Value) (us ws : List Value), us.length = n → ws.length = ks.length →
  bindArgs (d.mkFn .none kV doc pm an cdv ct) ⟨us, ks.zip ws⟩ = pure (d.ps.zip (pick ix (us ++ (ws ++ []))))
def HDef.Kw1 (d : HDef) (n : Nat) (ks : List Str) (ix dj : List Nat) : Prop := ∀ (tup : Addr) (kV doc pm : Value) (an : Option Addr) (cdv ct : Value) (us ws its : List Value), us.length = n → ws.length = ks.length → its.length = d.dfl.length →
  ∃ k, bindArgs (d.mkFn (.ref tup) kV doc pm an cdv ct) ⟨us, ks.zip ws⟩ = seqItems? (.ref tup) >>= k ∧ k (some its.toArray) = pure (d.ps.zip (pick ix (us ++ (ws ++ pick dj its))))
structure HDefOk (d : HDef) : Prop where
  sc : FnScope d.N d.ps (defScope d.st)
  b0 : d.dfl = [] → d.At0
  b1 : d.dfl ≠ [] → ∀ m, d.ps.length ≤ m + d.dfl.length → m ≤ d.ps.length → d.At1 m
structure HSpecOk (s : HSpec) : Prop where
  nd : (s.defs.map (·.key)).Nodup
  d : ∀ d ∈ s.defs, HDefOk d
  k : ∀ p ∈ s.kw, ∀ d, s.def? p.1.1 = some d → (d.dfl = [] → d.Kw0 p.1.2.1 p.1.2.2 p.2.1) ∧ (d.dfl ≠ [] → d.Kw1 p.1.2.1 p.1.2.2 p.2.1 p.2.2)
def levM (g : Addr → Option Obj) : Nat → List Addr → List Addr
  | 0, _ => []
  | n + 1, as => as ++ levM g n (as.flatMap fun a => match g a with
    | some o => (He.refsD o).filter fun b => !(b == a)
    | none => [])
def fragM (g : Addr → Option Obj) (n : Nat) : PySem.W.Frag := He.frT g (levM g n [mainGlobals])
def frcK {α : Type} : PySem.W.Frag → (PySem.W.Frag → α) → α
  | [], k => k []
  | (a, ⟨c, d, dt, sl⟩) :: r, k => HandSHeadRun.frNat a fun a => frcK r fun r => k ((a, ⟨c, d, dt, sl⟩) :: r)
theorem frcK_eq {α : Type} : ∀ (K : PySem.W.Frag) (k : PySem.W.Frag → α), frcK K k = k K
  | [], k => rfl
  | (a, ⟨c, d, dt, sl⟩) :: r, k => by
    show HandSHeadRun.frNat a (fun a => frcK r fun r => k ((a, ⟨c, d, dt, sl⟩) :: r)) = _
    rw [HandSHeadRun.frNat_eq, frcK_eq r]
def HDef.val (d : HDef) : He.FnW := some (d.fname, d.qual, defArgs d.st, .stmts (defBody d.st), defScope d.st, mainGlobals, [], builtinsNs)
abbrev AlM : Type := (List He.FnW × List (Option (List (Option (Str × Int))))) × Bool
def HSpec.lams (s : HSpec) : List HDef := s.defs.filter (·.lam)
def lamsB (g : Addr → Option Obj) (s : HSpec) (K : PySem.W.Frag) : Bool := (s.lams.all fun d => PySem.W.codeHdIn K (d.code K) (d.tab K) && (match g (d.tab K) with
  | some o => He.emptyTab o
  | none => false)) && decide ((s.lams.map fun d => d.tab K).Nodup)
def obsK (s : HSpec) (g : Addr → Option Obj) (K : PySem.W.Frag) : AlM := ((s.defs.map fun d => He5.fnA K (d.addr K), s.gkd.map fun p => He.dicW K (He.ga K p.1)), s.okB K && lamsB g s K)
def obsM (n : Nat) (s : HSpec) (g : Addr → Option Obj) : AlM := frcK (fragM g n) (obsK s g)
def valM (s : HSpec) (w : PySem.World) : AlM := ((s.defs.map HDef.val, s.gkd.map fun p => some (He.keysIn w.params (p.2.map (·.1)))), true)
structure SaysM (s : HSpec) (w : PySem.World) (h : Heap) (K : PySem.W.Frag) : Prop where
  fn : s.defs.map (fun d => He5.fnA K (d.addr K)) = s.defs.map HDef.val
  kd : s.gkd.map (fun p => He.dicW K (He.ga K p.1)) = s.gkd.map fun p => some (He.keysIn w.params (p.2.map (·.1)))
  ok : s.okB K = true
  hd : ∀ d ∈ s.lams, PySem.W.codeHdIn K (d.code K) (d.tab K) = true
  out : ∀ d ∈ s.lams, K.lookup (d.tab K) = none
  emp : ∀ d ∈ s.lams, h.get? (d.tab K) = some { cls := .none, data := .fields #[] }
  nd : (s.lams.map fun d => d.tab K).Nodup
theorem saysM_of {n : Nat} {s : HSpec} {w : PySem.World} {h : Heap} (e : obsM n s h.get? = valM s w) : SaysM s w h (fragM h.get? n) := by
  unfold obsM at e
  rw [frcK_eq] at e
  have e1 : (s.defs.map fun d => He5.fnA (fragM h.get? n) (d.addr (fragM h.get? n))) = s.defs.map HDef.val := congrArg (fun z : AlM => z.1.1) e
  have e2 : (s.gkd.map fun p => He.dicW (fragM h.get? n) (He.ga (fragM h.get? n) p.1)) = s.gkd.map fun p => some (He.keysIn w.params (p.2.map (·.1))) := congrArg (fun z : AlM => z.1.2) e
  have e3 : (s.okB (fragM h.get? n) && lamsB h.get? s (fragM h.get? n)) = true := congrArg (fun z : AlM => z.2) e
  obtain ⟨h1, h2⟩ := two e3
  obtain ⟨h3, h4⟩ := two h2
  have each : ∀ d ∈ s.lams, PySem.W.codeHdIn (fragM h.get? n) (d.code (fragM h.get? n)) (d.tab (fragM h.get? n)) = true ∧ ∃ o, h.get? (d.tab (fragM h.get? n)) = some o ∧ He.emptyTab o = true := fun d hd => by
    obtain ⟨q1, q2⟩ := two (List.all_eq_true.mp h3 d hd)
    refine ⟨q1, ?_⟩
    cases q : h.get? (d.tab (fragM h.get? n)) with
    | none => rw [q] at q2; cases q2
    | some o => rw [q] at q2; exact ⟨o, rfl, q2⟩
  exact ⟨e1, e2, h1, fun d hd => (each d hd).1, fun d hd => by obtain ⟨_, o, q, z⟩ := each d hd; exact He.frT_none q z,
    fun d hd => by obtain ⟨_, o, q, z⟩ := each d hd; rw [q, He.emptyTab_eq z], of_decide_eq_true h4⟩
def hookM (n : Nat) (s : HSpec) : PySem.W.Hook where
  α := AlM
  obs := fun st => obsM n s st.heap.get?
  val := fun w => valM s w
  says := fun w h => ∃ K : PySem.W.Frag, K.In h ∧ SaysM s w h K
  of := fun _ _ e => ⟨_, He.frT_in, saysM_of e⟩
  keeps := fun _ _ _ ⟨K, hK, c⟩ k => ⟨K, PySem.W.Frag.In.keeps hK k, ⟨c.fn, c.kd, c.ok, c.hd, c.out, fun d hd => k _ _ (c.emp d hd), c.nd⟩⟩
theorem obsM_eq {n : Nat} {s : HSpec} {g : Addr → Option Obj} {st : Shared} (h : ∀ a, g a = st.heap.get? a) : obsM n s g = (hookM n s).obs st := by
  have e : g = st.heap.get? := funext h
  rw [e] <;> rfl
end MP
end
section
set_option maxRecDepth 100000
set_option maxHeartbeats 1000000
namespace MP
open PySem PySem.Spec PyProof.Rows L2
theorem Vals.pick {vs : List V} {us : List Value} (r : Vals vs us) : ∀ ix : List Nat, Vals (MP.pick ix vs) (MP.pick ix us)
  | [] => .nil
  | i :: ix => by
    rw [pick_cons, pick_cons]
    have key : ∀ {vs : List V} {us : List Value} (i : Nat), Vals vs us → (vs[i]? = none ∧ us[i]? = none) ∨ ∃ v u, vs[i]? = some v ∧ us[i]? = some u ∧ RelV v u := by
      intro vs us i r
      induction r generalizing i with
      | nil => exact .inl ⟨by simp, by simp⟩
      | cons h _ ih =>
        cases i with
        | zero => exact .inr ⟨_, _, rfl, rfl, h⟩
        | succ j => simpa using ih j
    rcases key i r with ⟨h1, h2⟩ | ⟨v, u, h1, h2, h3⟩
    · rw [h1, h2]; exact Vals.pick r ix
    · rw [h1, h2]; exact .cons h3 (Vals.pick r ix)
theorem pick_nil {α : Type} : ∀ ix : List Nat, pick ix ([] : List α) = []
  | [] => rfl
  | i :: ix => by rw [pick_cons]; simpa using pick_nil ix
theorem pick_map {α β : Type} (f : α → β) (xs : List α) : ∀ ix : List Nat, pick ix (xs.map f) = (pick ix xs).map f
  | [] => rfl
  | i :: ix => by
    rw [pick_cons, pick_cons, List.getElem?_map]
    cases xs[i]? with
    | none => exact pick_map f xs ix
    | some x => show f x :: pick ix (xs.map f) = f x :: (pick ix xs).map f; rw [pick_map f xs ix]
section
variable {s : HSpec} {K : PySem.W.Frag} {d : HDef} {q : Str}
theorem def_mem (h : s.def? q = some d) : d ∈ s.defs ∧ d.key = q := ⟨List.mem_of_find?_eq_some h, of_decide_eq_true (List.find?_some (p := fun d : HDef => decide (d.key = q)) h)⟩
theorem def_at : ∀ {l : List HDef}, (l.map (·.key)).Nodup → d ∈ l → l.find? (fun e => decide (e.key = d.key)) = some d
  | [], _, h => by cases h
  | e :: l, nd, h => by
    rw [List.map_cons, List.nodup_cons] at nd
    rw [List.find?_cons]
    rcases List.mem_cons.mp h with z | z
    · rw [← z]; simp
    · have ne : ¬ e.key = d.key := fun w => nd.1 (by rw [w]; exact List.mem_map.mpr ⟨d, z, rfl⟩)
      rw [decide_eq_false ne]
      exact def_at nd.2 z
/-- the def's object: its function, the defaults -/
structure DefAt (s : HSpec) (K : PySem.W.Frag) (d : HDef) (fd : FuncData) (dvs : List V) : Prop where
  F : FunD K d.fname d.qual (defArgs d.st) (defBody d.st) (defScope d.st) dvs [] (d.addr K) fd
  len : dvs.length = d.dfl.length
  rep : ∀ h ρ H, RepL ((s.T K).hide h) ρ H dvs (d.dfl.map MP.K.toD)
  code : fd.code = .ref (d.code K)
  fn : PySem.W.isFn K (.ref (d.addr K)) = true
theorem defAt_of (e : He5.fnA K (d.addr K) = d.val) (c : d.objB s K = true) : ∃ fd dvs, DefAt s K d fd dvs := by
  obtain ⟨kp, c⟩ := two c
  obtain ⟨fn, c⟩ := two c
  unfold He5.fnA at e
  cases hl : K.lookup (d.addr K) with
  | none => rw [hl] at c; cases c
  | some o =>
    obtain ⟨oc, od, dt, osl⟩ := o
    rw [hl] at c e
    cases dt with
    | func fd =>
      obtain ⟨n1, n2, n3, n4, n5, n6, n7, n8, n9, n10, n11, n12, n13, n14, n15⟩ := fd
      have e2 : (some (n1, n2, n3, n4, n5, n6, n7, n15) : He.FnW) = some (d.fname, d.qual, defArgs d.st, .stmts (defBody d.st), defScope d.st, mainGlobals, [], builtinsNs) := e
      simp only [Option.some.injEq, Prod.mk.injEq] at e2
      obtain ⟨h1, h2, h3, h4, h5, h6, h7, h8⟩ := e2
      subst h1 h2 h3 h4 h5 h6 h7 h8
      obtain ⟨c1, c2⟩ := two c
      have hcode : ∃ cc, n13 = .ref cc := by
        cases n13 with
        | ref cc => exact ⟨cc, rfl⟩
        | _ => cases c1
      obtain ⟨cc, rfl⟩ := hcode
      have hc : d.code K = cc := by unfold HDef.code; rw [hl]
      have fin : ∀ dvs, DflV K n8 dvs → dvs.length = d.dfl.length → (∀ h ρ H, RepL ((s.T K).hide h) ρ H dvs (d.dfl.map MP.K.toD)) → ∃ fd dvs, DefAt s K d fd dvs := fun dvs hD hlen hrep =>
        ⟨_, dvs, ⟨⟨oc, od, n8, n9, n10, n11, n12, .ref cc, n14, osl, rfl, hl, c1, hD, .inl rfl⟩, kp⟩, hlen, hrep, by rw [hc], fn⟩
      cases hdf : d.dfl with
      | nil =>
        rw [hdf] at c2
        cases n8 with
        | none => exact fin [] (.inl ⟨rfl, rfl⟩) (by rw [hdf]; rfl) (by rw [hdf]; exact fun _ _ _ => .nil)
        | _ => cases c2
      | cons x xs =>
        rw [hdf] at c2
        cases n8 with
        | ref a =>
          have c3 : (match K.lookup a with
            | some ⟨_, _, .seq its _, _⟩ => repBs K (s.fA K) (x :: xs) its.toList
            | _ => false) = true := c2
          cases hl2 : K.lookup a with
          | none => rw [hl2] at c3; cases c3
          | some o2 =>
            obtain ⟨oc2, od2, dt2, osl2⟩ := o2
            rw [hl2] at c3
            cases dt2 with
            | seq its n =>
              obtain ⟨vs, r1, r2⟩ := repBs_ok (T := s.T K) (show repBs K (s.fA K) (x :: xs) its.toList = true from c3)
              have hne : vs ≠ [] := by
                intro z
                subst z
                have := (r2 [] [] (fun _ => none)).length
                simp [MP.K.toDs] at this
              refine fin vs (.inr ⟨hne, a, _, its.toList, n, rfl, hl2, by simp, r1⟩) ?_ ?_
              · rw [hdf]
                have := (r2 [] [] (fun _ => none)).length
                rw [toDs_map, List.length_map] at this
                exact this
              · rw [hdf, ← toDs_map]; exact r2
            | _ => cases c3
        | _ => cases c2
    | _ => cases c
section
variable {fd : FuncData} {dvs : List V}
/-- positional arguments, the rest from the defaults -/
theorem DefAt.binds (D : DefAt s K d fd dvs) (O : HDefOk d) {m : Nat} (h1 : d.ps.length ≤ m + d.dfl.length) (h2 : m ≤ d.ps.length) : ∃ ds, Vals (dvs.drop (m + d.dfl.length - d.ps.length)) ds ∧ Binds K fd d.ps ds := by
  by_cases hz : d.dfl = []
  · have e : dvs = [] := List.eq_nil_of_length_eq_zero (by rw [D.len, hz]; rfl)
    have F := D.F
    rw [e] at F ⊢
    refine ⟨[], by simp; exact .nil, FunD.bindsN F fun kV doc pm an cdv ct us hl => O.b0 hz kV doc pm an cdv ct us hl⟩
  · have hne : dvs ≠ [] := fun z => hz (List.eq_nil_of_length_eq_zero (by rw [← D.len, z]; rfl))
    exact FunD.binds1 D.F m _ hne (by rw [D.len]; omega) fun tup kV doc pm an cdv ct us its l1 l2 => O.b1 hz m h1 h2 tup kV doc pm an cdv ct us its l1 (l2.trans D.len)
theorem DefAt.all (D : DefAt s K d fd dvs) (O : HDefOk d) : Binds K fd d.ps [] := by
  obtain ⟨ds, h1, h2⟩ := D.binds O (m := d.ps.length) (by omega) (Nat.le_refl _)
  have : ds = [] := by
    have l := h1.length
    rw [List.length_drop, D.len] at l
    exact List.eq_nil_of_length_eq_zero (by omega)
  rw [this] at h2
  exact h2
theorem DefAt.kw (D : DefAt s K d fd dvs) {n : Nat} {ks : List Str} {ix dj : List Nat} (h : (d.dfl = [] → d.Kw0 n ks ix) ∧ (d.dfl ≠ [] → d.Kw1 n ks ix dj)) :
    ∃ dus ws, KArr K fd d.ps n ks ix dus ∧ Vals ws dus ∧ ∀ h ρ H, RepL ((s.T K).hide h) ρ H ws ((pick dj d.dfl).map MP.K.toD) := by
  obtain ⟨oc, od, dV, kV, doc, pm, an, cdv, ct, osl, rfl, lk, hcd, hD, _⟩ := D.F.ex
  rcases hD with ⟨e, rfl⟩ | ⟨hne, tup, o, its, m, rfl, lT, oT, rT⟩
  · have hz : d.dfl = [] := List.eq_nil_of_length_eq_zero (by rw [← D.len, e]; rfl)
    refine ⟨[], [], ⟨fun st us ws X l1 l2 => ?_⟩, .nil, fun h ρ H => ?_⟩
    · exact .of_eq (h.1 hz kV doc pm an cdv ct us ws l1 l2)
    · rw [hz, pick_nil]; exact .nil
  · have hz : d.dfl ≠ [] := fun z => hne (List.eq_nil_of_length_eq_zero (by rw [D.len, z]; rfl))
    refine ⟨pick dj its, pick dj dvs, ⟨fun st us ws X l1 l2 => ?_⟩, Vals.pick rT dj, fun h ρ H => ?_⟩
    · obtain ⟨k, e1, e2⟩ := h.2 hz tup kV doc pm an cdv ct us ws its l1 l2 (rT.length.symm.trans D.len)
      refine BindsTo.of_looks fun M => ?_
      have e1' : bindArgs (PySem.W.fnOf d.fname d.qual (defArgs d.st) (defBody d.st) (defScope d.st) (.ref tup) kV doc pm an cdv ct) ⟨us, ks.zip ws⟩ = seqItems? (.ref tup) >>= k := e1
      rw [e1']
      exact looks_items X lT oT (.of_pure e2)
    · rw [← pick_map]
      exact (D.rep h ρ H).pick dj
end
end
section
variable {s : HSpec} {prog : Program} {w : PySem.World} {K : PySem.W.Frag} {h base : Heap} {mg : Str → Option Value} {d : HDef} {q : Str}
theorem SaysM.def_ (c : SaysM s w h K) (hd : d ∈ s.defs) : ∃ fd dvs, DefAt s K d fd dvs := by
  have e := (List.map_inj_left.mp c.fn) d hd
  obtain ⟨o1, _⟩ := two c.ok
  obtain ⟨o2, _⟩ := two (List.all_eq_true.mp o1 d hd)
  exact defAt_of e (two o2).1
theorem SaysM.okD (c : SaysM s w h K) (hd : d ∈ s.defs) : d.okB s K = true ∧ eqMB K d = true := by
  obtain ⟨o1, _⟩ := two c.ok
  exact two (List.all_eq_true.mp o1 d hd)
theorem tab_inj : ∀ {l : List HDef}, (l.map fun d => d.tab K).Nodup → ∀ {a b : HDef}, a ∈ l → b ∈ l → a.tab K = b.tab K → a = b
  | [], _, _, _, h, _, _ => by cases h
  | x :: l, nd, a, b, ha, hb, e => by
    rw [List.map_cons, List.nodup_cons] at nd
    rcases List.mem_cons.mp ha with ha | ha <;> rcases List.mem_cons.mp hb with hb | hb
    · rw [ha, hb]
    · exact absurd (List.mem_map.mpr ⟨b, hb, by rw [← e, ha]⟩) nd.1
    · exact absurd (List.mem_map.mpr ⟨a, ha, by rw [e, hb]⟩) nd.1
    · exact tab_inj nd.2 ha hb e
theorem cA_at {cn : Str} {C : Addr} (e : (s.T K).cA cn = some C) : cn ∈ s.gcl ∧ C = He.ga K cn := by
  have e1 : (if cn ∈ s.gcl then some (He.ga K cn) else none) = some C := e
  by_cases hz : cn ∈ s.gcl
  · rw [if_pos hz] at e1; cases e1; exact ⟨hz, rfl⟩
  · rw [if_neg hz] at e1; cases e1
theorem cA_of {cn : Str} (hz : cn ∈ s.gcl) : (s.T K).cA cn = some (He.ga K cn) := by
  show (if cn ∈ s.gcl then some (He.ga K cn) else none) = _
  rw [if_pos hz]
section
variable (OK : HSpecOk s) (c : SaysM s w h K) (KB : K.In base) (G : base.Ns mainGlobals mg) (TB : ∀ d ∈ s.lams, LamX.TabB base mg (d.code K) (d.tab K))
include OK c TB
theorem defF_of (hq : s.def? q = some d) : ∃ fd dvs, DefAt s K d fd dvs ∧ DefF ⟨prog, w, mg, base⟩ (s.T K) s.P s.G q (d.fun s) (d.addr K) fd d.ps := by
  obtain ⟨hd, hk⟩ := def_mem hq
  obtain ⟨fd, dvs, D⟩ := c.def_ hd
  have O := OK.d d hd
  refine ⟨fd, dvs, D, ⟨⟨d.fname, d.qual, defArgs d.st, defBody d.st, defScope d.st, dvs, [], s.fuel, d.lam, D.F, O.sc, rfl, fun hl => ?_⟩, ?_, D.fn, D.all O, rfl, ⟨fun n ks ix dv e => ?_⟩⟩⟩
  · have hm : d ∈ s.lams := List.mem_filter.mpr ⟨hd, hl⟩
    refine ⟨d.code K, d.tab K, D.code, TB d hm, List.mem_map.mpr ⟨d, hm, rfl⟩, fun p hp e => ?_⟩
    obtain ⟨d2, hm2, rfl⟩ := List.mem_map.mp hp
    rw [tab_inj c.nd hm2 hm e]
    rfl
  · show (s.def? q).map (HDef.addr K) = _
    rw [hq]; rfl
  · have e1 : ((s.kw.find? fun p => decide (p.1 = (q, n, ks))).bind fun p => (s.def? q).map fun d => (p.2.1, (pick p.2.2 d.dfl).map MP.K.toD)) = some (ix, dv) := e
    obtain ⟨p, hp, e2⟩ := Option.bind_eq_some_iff.mp e1
    rw [hq] at e2
    cases e2
    have hp1 : p.1 = (q, n, ks) := of_decide_eq_true (List.find?_some (p := fun p : (Str × Nat × List Str) × (List Nat × List Nat) => decide (p.1 = (q, n, ks))) hp)
    have hk := OK.k p (List.mem_of_find?_eq_some hp) d (by rw [hp1]; exact hq)
    rw [hp1] at hk
    exact D.kw hk
include KB G
theorem facts_of : Facts ⟨prog, w, mg, base⟩ (s.T K) s.P s.G where
  defs := fun f F e => by
    obtain ⟨d, hd, rfl⟩ := Option.map_eq_some_iff.mp (show (s.def? f).map (HDef.fun s) = some F from e)
    obtain ⟨fd, dvs, _, D⟩ := defF_of (prog := prog) OK c TB hd
    exact ⟨_, _, _, D⟩
  fn := fun n q e => by
    obtain ⟨p, hp, rfl⟩ := Option.map_eq_some_iff.mp (show (s.gfn.find? fun p => decide (p.1 = n)).map (·.2) = some q from e)
    have hn : p.1 = n := of_decide_eq_true (List.find?_some (p := fun p : Str × Str => decide (p.1 = n)) hp)
    obtain ⟨_, o⟩ := two c.ok
    obtain ⟨o, _⟩ := two o
    have o := List.all_eq_true.mp o p (List.mem_of_find?_eq_some hp)
    have fAe : s.fA K p.2 = (s.def? p.2).map (HDef.addr K) := rfl
    cases hd : s.def? p.2 with
    | none => rw [fAe, hd] at o; cases o
    | some d =>
      rw [fAe, hd] at o
      obtain ⟨fd, dvs, DA, D⟩ := defF_of (prog := prog) OK c TB hd
      refine ⟨_, _, fd, _, (by show (s.def? p.2).map (HDef.fun s) = _; rw [hd]; rfl), D, ?_, fun m dv hdv => ?_⟩
      · rw [← hn]; exact PySem.W.mg_of KB G (eqV_ok o)
      · have e1 : (s.def? p.2).bind (fun d => if d.ps.length ≤ m + d.dfl.length ∧ m ≤ d.ps.length then some (d.dfl.drop (m + d.dfl.length - d.ps.length)) else none) = some dv := hdv
        rw [hd, Option.bind_some] at e1
        by_cases hz : d.ps.length ≤ m + d.dfl.length ∧ m ≤ d.ps.length
        · rw [if_pos hz] at e1
          cases e1
          obtain ⟨ds, h1, h2⟩ := DA.binds (OK.d d (def_mem hd).1) hz.1 hz.2
          exact ⟨ds, _, h2, h1, fun h ρ H => by rw [List.map_drop]; exact (DA.rep h ρ H).drop _⟩
        · rw [if_neg hz] at e1; cases e1
  fld := fun cn f C e hC => by
    obtain ⟨_, rfl⟩ := cA_at hC
    have hm : (cn, f) ∈ s.fld := of_decide_eq_true e
    obtain ⟨_, o⟩ := two c.ok
    obtain ⟨_, o⟩ := two o
    obtain ⟨_, o⟩ := two o
    obtain ⟨_, o⟩ := two o
    obtain ⟨_, o⟩ := two o
    obtain ⟨_, o⟩ := two o
    obtain ⟨o, _⟩ := two o
    obtain ⟨_, o⟩ := two (List.all_eq_true.mp o _ hm)
    obtain ⟨o1, o2⟩ := two o
    exact ⟨clsB_ok o1, eqV_ok o2⟩
  prop := fun cn f q e => by
    obtain ⟨d, hp, rfl⟩ := Option.map_eq_some_iff.mp (show (s.defs.find? fun d => decide (d.own = some cn ∧ d.nm = f ∧ d.prop = true)).map (·.key) = some q from e)
    obtain ⟨h1, h2, h3⟩ := of_decide_eq_true (List.find?_some (p := fun d : HDef => decide (d.own = some cn ∧ d.nm = f ∧ d.prop = true)) hp)
    have hd := List.mem_of_find?_eq_some hp
    have hq : s.def? d.key = some d := def_at OK.nd hd
    obtain ⟨fd, dvs, DA, D⟩ := defF_of (prog := prog) OK c TB hq
    obtain ⟨o, _⟩ := c.okD hd
    obtain ⟨_, o⟩ := two o
    rw [h1, h3] at o
    obtain ⟨o1, o2⟩ := two o
    have o2 : d.propB K = true := o2
    unfold HDef.propB at o2
    rw [h1] at o2
    obtain ⟨p1, o2⟩ := two o2
    obtain ⟨p2, o2⟩ := two o2
    obtain ⟨p3, o2⟩ := two o2
    obtain ⟨p4, p5⟩ := two o2
    have ad : d.addr K = prF K (He.ma K (He.ga K cn) d.nm) := by unfold HDef.addr; rw [h1, h3]; rfl
    refine ⟨He.ga K cn, He.ma K (He.ga K cn) d.nm, d.fun s, d.addr K, fd, d.ps, cA_of (of_decide_eq_true o1), clsB_ok p1, ⟨by rw [← h2]; exact eqV_ok p2, eqV_ok p3, of_decide_eq_true p4, ?_⟩, (by show (s.def? d.key).map (HDef.fun s) = _; rw [hq]; rfl), D⟩
    rw [ad]
    unfold prF
    cases hr : PySem.W.recIn K (He.ma K (He.ga K cn) d.nm) "property" with
    | none => rw [hr] at p5; cases p5
    | some l =>
      rw [hr] at p5
      cases l with
      | nil => cases p5
      | cons v r => cases v <;> first | exact ⟨r, hr⟩ | cases p5
  meth := fun cn m q e => by
    obtain ⟨d, hp, rfl⟩ := Option.map_eq_some_iff.mp (show (s.defs.find? fun d => decide (d.own = some cn ∧ d.nm = m ∧ d.prop = false)).map (·.key) = some q from e)
    obtain ⟨h1, h2, h3⟩ := of_decide_eq_true (List.find?_some (p := fun d : HDef => decide (d.own = some cn ∧ d.nm = m ∧ d.prop = false)) hp)
    have hd := List.mem_of_find?_eq_some hp
    have hq : s.def? d.key = some d := def_at OK.nd hd
    obtain ⟨fd, dvs, DA, D⟩ := defF_of (prog := prog) OK c TB hq
    obtain ⟨o, _⟩ := c.okD hd
    obtain ⟨_, o⟩ := two o
    rw [h1, h3] at o
    obtain ⟨o1, o2⟩ := two o
    have o2 : d.methB K = true := o2
    unfold HDef.methB at o2
    rw [h1] at o2
    obtain ⟨p1, o2⟩ := two o2
    obtain ⟨p2, _⟩ := two o2
    exact ⟨He.ga K cn, d.fun s, d.addr K, fd, d.ps, cA_of (of_decide_eq_true o1), clsB_ok p1, ⟨by rw [← h2]; exact eqV_ok p2, DA.fn, D.kp⟩, (by show (s.def? d.key).map (HDef.fun s) = _; rw [hq]; rfl), D⟩
  ty := by
    obtain ⟨_, o⟩ := two c.ok
    obtain ⟨_, o⟩ := two o
    obtain ⟨oc, o⟩ := two o
    obtain ⟨_, o⟩ := two o
    obtain ⟨_, o⟩ := two o
    obtain ⟨_, o⟩ := two o
    obtain ⟨_, o⟩ := two o
    obtain ⟨_, ob⟩ := two o
    refine ⟨fun cn C m hC hm => ?_, fun cn t r e => ?_⟩
    · obtain ⟨hz, rfl⟩ := cA_at hC
      obtain ⟨g, _⟩ := two (List.all_eq_true.mp oc cn hz)
      obtain ⟨_, g⟩ := two g
      exact of_decide_eq_true (List.all_eq_true.mp g m hm)
    · obtain ⟨p, hp, rfl⟩ := Option.map_eq_some_iff.mp (show (s.below.find? fun p => decide (p.1 = (cn, t))).map (·.2) = some r from e)
      have hp1 : p.1 = (cn, t) := of_decide_eq_true (List.find?_some (p := fun p : (Str × Ty) × Bool => decide (p.1 = (cn, t))) hp)
      have b := List.all_eq_true.mp ob p (List.mem_of_find?_eq_some hp)
      unfold belowB at b
      rw [hp1] at b
      obtain ⟨b1, b⟩ := two b
      obtain ⟨b2, b⟩ := two b
      obtain ⟨b3, b⟩ := two b
      obtain ⟨b4, _⟩ := two b
      refine ⟨_, tyAt K t, cA_of (of_decide_eq_true b1), instB_ok b3, ?_, of_decide_eq_true b4⟩
      cases t with
      | blt n => rfl
      | own c2 =>
        show ((s.T K).cA c2).map Value.ref = _
        rw [cA_of (of_decide_eq_true b2)]; rfl
  cl := fun n cn e => by
    have e1 : (if n ∈ s.gcl then some n else none) = some cn := e
    by_cases hz : n ∈ s.gcl
    · rw [if_pos hz] at e1; cases e1
      obtain ⟨_, o⟩ := two c.ok
      obtain ⟨_, o⟩ := two o
      obtain ⟨o, _⟩ := two o
      obtain ⟨o, _⟩ := two (List.all_eq_true.mp o n hz)
      obtain ⟨o, _⟩ := two o
      exact ⟨_, PySem.W.mg_of KB G (eqV_ok o), cA_of hz⟩
    · rw [if_neg hz] at e1; cases e1
  con := fun n x e => by
    obtain ⟨p, hp, rfl⟩ := Option.map_eq_some_iff.mp (show (s.gcon.find? fun p => decide (p.1 = n)).map (·.2) = some x from e)
    have hn : p.1 = n := of_decide_eq_true (List.find?_some (p := fun p : Str × MP.K => decide (p.1 = n)) hp)
    obtain ⟨_, o⟩ := two c.ok
    obtain ⟨_, o⟩ := two o
    obtain ⟨_, o⟩ := two o
    obtain ⟨o, _⟩ := two o
    have o := List.all_eq_true.mp o p (List.mem_of_find?_eq_some hp)
    rw [hn] at o
    cases hv : PySem.W.nsIn K mainGlobals n with
    | none => rw [hv] at o; cases o
    | some r =>
      rw [hv] at o
      cases r with
      | none => cases o
      | some u =>
        obtain ⟨v, h1, h2⟩ := repB_ok (T := s.T K) (show repB K (s.fA K) p.2 u = true from o)
        exact ⟨u, v, PySem.W.mg_of KB G hv, h1, h2⟩
  kd := fun n kvs e => by
    obtain ⟨p, hp, rfl⟩ := Option.map_eq_some_iff.mp (show (s.gkd.find? fun p => decide (p.1 = n)).map (·.2) = some kvs from e)
    have hn : p.1 = n := of_decide_eq_true (List.find?_some (p := fun p : Str × List (Str × MP.K) => decide (p.1 = n)) hp)
    have hm := List.mem_of_find?_eq_some hp
    obtain ⟨_, o⟩ := two c.ok
    obtain ⟨_, o⟩ := two o
    obtain ⟨_, o⟩ := two o
    obtain ⟨_, o⟩ := two o
    obtain ⟨o, _⟩ := two o
    obtain ⟨o1, o2⟩ := two (List.all_eq_true.mp o p hm)
    have kd := (List.map_inj_left.mp c.kd) p hm
    refine ⟨He.ga K p.1, by rw [← hn]; exact PySem.W.mg_of KB G (eqV_ok o1), He.dicW_ok kd, fun z hz => (kdB_look o2 z).1 hz, fun z k hz => ?_⟩
    obtain ⟨u, h1, h2⟩ := (kdB_look o2 z).2 k hz
    obtain ⟨v, h3, h4⟩ := repB_ok (T := s.T K) (show repB K (s.fA K) k u = true from h2)
    exact ⟨u, v, h1, h3, h4⟩
  lp := rfl
  free := fun n e => by
    have hz : n ∈ s.gfree := of_decide_eq_true e
    obtain ⟨_, o⟩ := two c.ok
    obtain ⟨_, o⟩ := two o
    obtain ⟨_, o⟩ := two o
    obtain ⟨_, o⟩ := two o
    obtain ⟨_, o⟩ := two o
    obtain ⟨o, _⟩ := two o
    obtain ⟨o1, o2⟩ := two (List.all_eq_true.mp o n hz)
    exact ⟨PySem.W.mg_none_of KB G (eqV_ok o1), of_decide_eq_true o2⟩
  mk0 := fun cn e => by
    have hz : cn ∈ s.ini0 := of_decide_eq_true e
    obtain ⟨_, o⟩ := two c.ok
    obtain ⟨_, o⟩ := two o
    obtain ⟨_, o⟩ := two o
    obtain ⟨_, o⟩ := two o
    obtain ⟨_, o⟩ := two o
    obtain ⟨_, o⟩ := two o
    obtain ⟨_, o⟩ := two o
    obtain ⟨o, _⟩ := two o
    obtain ⟨o1, o2⟩ := two (List.all_eq_true.mp o cn hz)
    obtain ⟨o2, o3⟩ := two o2
    obtain ⟨o3, o4⟩ := two o3
    refine ⟨rfl, ?_, _, cA_of (of_decide_eq_true o1), o2, eqV_ok o3, o4⟩
    show (if cn ∈ s.ini0 then some none else (s.ini cn).map some) = _
    rw [if_pos hz]
  mkc := fun cn q e => by
    obtain ⟨d, hp, rfl⟩ := Option.map_eq_some_iff.mp (show (s.defs.find? fun d => decide (d.own = some cn ∧ d.nm = ("__init__" : Str) ∧ d.prop = false)).map (·.key) = some q from e)
    obtain ⟨h1, h2, h3⟩ := of_decide_eq_true (List.find?_some (p := fun d : HDef => decide (d.own = some cn ∧ d.nm = ("__init__" : Str) ∧ d.prop = false)) hp)
    have hd := List.mem_of_find?_eq_some hp
    have hq : s.def? d.key = some d := def_at OK.nd hd
    obtain ⟨fd, dvs, DA, D⟩ := defF_of (prog := prog) OK c TB hq
    obtain ⟨o, _⟩ := c.okD hd
    obtain ⟨_, o⟩ := two o
    rw [h1, h3] at o
    obtain ⟨o1, o2⟩ := two o
    have o2 : d.methB K = true := o2
    unfold HDef.methB at o2
    rw [h1] at o2
    dsimp only at o2
    rw [if_pos h2] at o2
    obtain ⟨p1, o2⟩ := two o2
    obtain ⟨p2, o2⟩ := two o2
    obtain ⟨p3, p4⟩ := two o2
    have hi : PySem.W.findIn K (.ref (He.ga K cn)) "__init__" = some (some (.ref (d.addr K))) := by rw [← h2]; exact eqV_ok p2
    have hni : cn ∉ s.ini0 := fun hz => by
      obtain ⟨_, o⟩ := two c.ok
      obtain ⟨_, o⟩ := two o
      obtain ⟨_, o⟩ := two o
      obtain ⟨_, o⟩ := two o
      obtain ⟨_, o⟩ := two o
      obtain ⟨_, o⟩ := two o
      obtain ⟨_, o⟩ := two o
      obtain ⟨o, _⟩ := two o
      obtain ⟨_, o2⟩ := two (List.all_eq_true.mp o cn hz)
      obtain ⟨_, o3⟩ := two o2
      obtain ⟨o3, _⟩ := two o3
      have := eqV_ok o3
      rw [hi] at this
      cases this
    refine ⟨rfl, ?_, He.ga K cn, d.fun s, d.addr K, fd, d.ps, cA_of (of_decide_eq_true o1), ⟨p3, hi, DA.fn, p4⟩, (by show (s.def? d.key).map (HDef.fun s) = _; rw [hq]; rfl), D, fun m dv hdv => ?_⟩
    · show (if cn ∈ s.ini0 then some none else (s.ini cn).map some) = _
      rw [if_neg hni]
      have : s.ini cn = some d.key := e
      rw [this]; rfl
    · have e1 : (s.def? d.key).bind (fun d => if d.ps.length ≤ m + d.dfl.length ∧ m ≤ d.ps.length then some (d.dfl.drop (m + d.dfl.length - d.ps.length)) else none) = some dv := hdv
      rw [hq, Option.bind_some] at e1
      by_cases hz : d.ps.length ≤ m + d.dfl.length ∧ m ≤ d.ps.length
      · rw [if_pos hz] at e1
        cases e1
        obtain ⟨ds, h1, h2⟩ := DA.binds (OK.d d hd) hz.1 hz.2
        exact ⟨ds, _, h2, h1, fun h ρ H => by rw [List.map_drop]; exact (DA.rep h ρ H).drop _⟩
      · rw [if_neg hz] at e1; cases e1
omit OK KB G TB in
theorem eqF_of : EqF (s.T K) s.P where
  ne := fun cn C hC hm => by
    obtain ⟨_, rfl⟩ := cA_at hC
    obtain ⟨q, hq⟩ := Option.isSome_iff_exists.mp hm
    obtain ⟨d, hp, rfl⟩ := Option.map_eq_some_iff.mp (show (s.defs.find? fun d => decide (d.own = some cn ∧ d.nm = ("__eq__" : Str) ∧ d.prop = false)).map (·.key) = some q from hq)
    obtain ⟨h1, h2, h3⟩ := of_decide_eq_true (List.find?_some (p := fun d : HDef => decide (d.own = some cn ∧ d.nm = ("__eq__" : Str) ∧ d.prop = false)) hp)
    obtain ⟨_, o⟩ := c.okD (List.mem_of_find?_eq_some hp)
    unfold eqMB at o
    rw [h1] at o
    dsimp only at o
    rw [if_pos h2] at o
    obtain ⟨o, _⟩ := two o
    obtain ⟨o1, o2⟩ := two o
    exact ⟨eqV_ok o1, of_decide_eq_true o2⟩
  tru := fun cn C hC hm => by
    obtain ⟨_, rfl⟩ := cA_at hC
    obtain ⟨q, hq⟩ := Option.isSome_iff_exists.mp hm
    obtain ⟨d, hp, rfl⟩ := Option.map_eq_some_iff.mp (show (s.defs.find? fun d => decide (d.own = some cn ∧ d.nm = ("__len__" : Str) ∧ d.prop = false)).map (·.key) = some q from hq)
    obtain ⟨h1, h2, h3⟩ := of_decide_eq_true (List.find?_some (p := fun d : HDef => decide (d.own = some cn ∧ d.nm = ("__len__" : Str) ∧ d.prop = false)) hp)
    obtain ⟨_, o⟩ := c.okD (List.mem_of_find?_eq_some hp)
    unfold eqMB at o
    rw [h1] at o
    dsimp only at o
    obtain ⟨_, o⟩ := two o
    rw [if_pos h2] at o
    exact eqV_ok o
  blt := fun cn C m hC hm => by
    obtain ⟨hz, rfl⟩ := cA_at hC
    obtain ⟨_, o⟩ := two c.ok
    obtain ⟨_, o⟩ := two o
    obtain ⟨o, _⟩ := two o
    obtain ⟨_, o⟩ := two (List.all_eq_true.mp o cn hz)
    exact List.all_eq_true.mp o m hm
  own := fun cn C cn' C' hC hC' hb => by
    obtain ⟨_, rfl⟩ := cA_at hC
    obtain ⟨_, rfl⟩ := cA_at hC'
    obtain ⟨r, hr⟩ := Option.isSome_iff_exists.mp hb
    obtain ⟨p, hp, rfl⟩ := Option.map_eq_some_iff.mp (show (s.below.find? fun p => decide (p.1 = (cn', Ty.own cn))).map (·.2) = some r from hr)
    have hp1 : p.1 = (cn', Ty.own cn) := of_decide_eq_true (List.find?_some (p := fun p : (Str × Ty) × Bool => decide (p.1 = (cn', Ty.own cn))) hp)
    obtain ⟨_, o⟩ := two c.ok
    obtain ⟨_, o⟩ := two o
    obtain ⟨_, o⟩ := two o
    obtain ⟨_, o⟩ := two o
    obtain ⟨_, o⟩ := two o
    obtain ⟨_, o⟩ := two o
    obtain ⟨_, o⟩ := two o
    obtain ⟨_, o⟩ := two o
    have b := List.all_eq_true.mp o p (List.mem_of_find?_eq_some hp)
    unfold belowB at b
    rw [hp1] at b
    obtain ⟨_, b⟩ := two b
    obtain ⟨_, b⟩ := two b
    obtain ⟨_, b⟩ := two b
    obtain ⟨_, b⟩ := two b
    exact b
end
end
end MP
end
section
set_option maxRecDepth 100000
set_option maxHeartbeats 1000000
namespace MP
open PySem PySem.Spec PyProof.Rows L2
/-- the object of an empty table of codes; of the script -/
def tabO : Obj := { cls := .none, data := .fields #[] }
def scrO (vs : List Value) : Obj := { cls := .type "list", data := .seq vs.toArray }
/-- what is tracked as the law begins: the tables ts, the script at a unless the written part has it -/
def begH (K : PySem.W.Frag) (ts : List Addr) (a : Addr) (vs : List Value) (ns : List Int) : Hp := fun b =>
  if b ∈ ts then some (.tbl #[]) else if b = a ∧ K.lookup a = none then some (.frz (scrO vs) (.lst (ns.map V.int))) else none
section
variable {P : Program} {w : PySem.World} {K : PySem.W.Frag} {mg mb : Str → Option Value} {ts : List Addr} {a : Addr} {vs : List Value} {ns : List Int} {s₁ : Shared}
theorem begH_cases (b : Addr) : begH K ts a vs ns b = none ∨ (b ∈ ts ∧ begH K ts a vs ns b = some (.tbl #[])) ∨ (b = a ∧ K.lookup a = none ∧ begH K ts a vs ns b = some (.frz (scrO vs) (.lst (ns.map V.int)))) := by
  unfold begH
  by_cases h1 : b ∈ ts
  · exact .inr (.inl ⟨h1, if_pos h1⟩)
  · rw [if_neg h1]
    by_cases h2 : b = a ∧ K.lookup a = none
    · exact .inr (.inr ⟨h2.1, h2.2, if_pos h2⟩)
    · exact .inl (if_neg h2)
/-- what is known as the law begins -/
structure Beg (P : Program) (w : PySem.World) (K : PySem.W.Frag) (mg mb : Str → Option Value) (ts : List Addr) (a : Addr) (vs : List Value) (ns : List Int) (s₁ : Shared) : Prop where
  kin : K.In s₁.heap
  glob : s₁.heap.Ns mainGlobals mg
  blt : s₁.heap.Ns builtinsNs mb
  bltB : ∀ x : Str, x ≠ "__name__" → mb x = bootBuiltins x
  lim : s₁.heap.NoLimit
  gens : s₁.gens = #[]
  tab : ∀ b ∈ ts, s₁.heap.get? b = some tabO
  out : ∀ b ∈ ts, K.lookup b = none
  obj : s₁.heap.get? a = some (scrO vs)
  ivs : IntsAre vs ns
  short : ns.length ≤ sizeLine
  bm : ∃ (bm : Addr) (ob : Obj), mg "__builtins__" = some (.ref bm) ∧ bm ≠ builtinsNs ∧ s₁.heap.get? bm = some ob ∧ ob.cls = .type "module" ∧ ob.dict = some builtinsNs ∧ ob.data = .plain
section
variable (B : Beg P w K mg mb ts a vs ns s₁)
include B
theorem Beg.apart : a ∉ ts := fun z => by
  have q := B.tab a z
  rw [B.obj] at q
  have z2 : Data.seq vs.toArray _ = Data.fields #[] := congrArg Obj.data (Option.some.inj q)
  cases z2
theorem Beg.seq : SqL K (begH K ts a vs ns) a (ns.map V.int) := by
  cases e : K.lookup a with
  | none => exact .inl (.inr ⟨scrO vs, by unfold begH; rw [if_neg B.apart, if_pos ⟨rfl, e⟩]⟩)
  | some o =>
    have q := B.kin a o e
    rw [B.obj] at q
    cases q
    exact .inr ⟨_, vs.toArray, _, e, rfl, rfl, rfl, by rw [List.size_toArray, B.ivs.length]; exact B.short, by simpa using vals_ints B.ivs⟩
theorem Beg.hok : HOk P w (begH K ts a vs ns) s₁.heap := fun b u z => by
  rcases begH_cases (K := K) (ts := ts) (a := a) (vs := vs) (ns := ns) b with e | ⟨hb, e⟩ | ⟨hb, _, e⟩
  · rw [e] at z; cases z
  · rw [e] at z; cases z; exact B.tab b hb
  · rw [e] at z; cases z
    rw [hb]
    exact ⟨B.obj, by rw [List.length_map]; exact B.short, vs, _, vals_ints B.ivs, B.obj⟩
/-- an object of another kind is not tracked -/
theorem Beg.free {b : Addr} {o : Obj} (e : s₁.heap.get? b = some o) (h1 : ∀ us n, o.data ≠ .seq us n) (h2 : o.data ≠ .fields #[]) : begH K ts a vs ns b = none := by
  rcases begH_cases (K := K) (ts := ts) (a := a) (vs := vs) (ns := ns) b with q | ⟨hb, _⟩ | ⟨hb, _, _⟩
  · exact q
  · rw [B.tab b hb] at e; cases e; exact absurd rfl h2
  · rw [hb, B.obj] at e; cases e; exact absurd rfl (h1 _ _)
theorem Beg.kinT : K.In (hidT s₁.heap (begH K ts a vs ns)) := fun b o e => hidT_get (B.kin b o e) (by
  rcases begH_cases (K := K) (ts := ts) (a := a) (vs := vs) (ns := ns) b with q | ⟨hb, _⟩ | ⟨hb, n, _⟩
  · exact q
  · rw [B.out b hb] at e; cases e
  · rw [hb, n] at e; cases e)
theorem Beg.nsT {b : Addr} {m : Str → Option Value} (n : s₁.heap.Ns b m) : (hidT s₁.heap (begH K ts a vs ns)).Ns b m := by
  obtain ⟨o, es, ep, e, d, r⟩ := n
  exact ⟨o, es, ep, hidT_get e (B.free e (fun us n z => by rw [d] at z; cases z) fun z => by rw [d] at z; cases z), d, r⟩
theorem Beg.mod : L2.Mod K mg (hidT s₁.heap (begH K ts a vs ns)) := by
  obtain ⟨mc, h1, h2⟩ := B.lim
  exact ⟨B.kinT, B.nsT B.glob, ⟨mb, B.nsT B.blt, B.bltB⟩, ⟨mc, B.nsT h1, h2⟩⟩
theorem Beg.tabB {cc p : Addr} (hp : p ∈ ts) (C : PySem.W.CodeHd s₁.heap cc p) : LamX.TabB (hidT s₁.heap (begH K ts a vs ns)) mg cc p := by
  have ht := B.tab p hp
  refine ⟨?_, ?_, fun z => ?_⟩
  · obtain ⟨o, us, file, tf, flags, tg, inF, text, tt, e1, r1, r2, r3, rest⟩ := C
    refine ⟨o, us, file, tf, flags, tg, inF, text, tt, hidT_get e1 (B.free e1 (fun us n z => by rw [r2] at z; cases z) fun z => ?_), r1, r2, r3, rest⟩
    rw [r2] at z
    cases z
    simp at r3
  · obtain ⟨bm, ob, b1, b2, b3, b4, b5, b6⟩ := B.bm
    refine ⟨bm, ob, b1, b2, fun q => ?_, fun q => ?_, hidT_get b3 (B.free b3 (fun us n z => by rw [b6] at z; cases z) fun z => by rw [b6] at z; cases z), b4, b5, b6⟩
    · obtain ⟨o, es, ep, e, d, _⟩ := B.glob
      rw [q, e] at b3; cases b3
      rw [d] at b6; cases b6
    · rw [q, ht] at b3; cases b3; cases b6
  · obtain ⟨o, es, ep, e, d, _⟩ := B.glob
    rw [z, ht] at e; cases e
    cases d
theorem Beg.env0 : Env0 P w K mg (hidT s₁.heap (begH K ts a vs ns)) callerA [] s₁ (begH K ts a vs ns) :=
  ⟨rfl, B.mod, fun b o e => of_hidT e, Nat.le_of_eq (hidT_size _ _), trivial, (fun b hb => by cases hb), B.hok, .of_eq B.gens⟩
/-- the law's call ends with True, from the law's promise -/
theorem Beg.ends {k : Nat} {fa : Addr} {fd : FuncData} {x : Str} {sp : Sp} (hr : RoomG k callerA) (F : FnOkG P w K mg (hidT s₁.heap (begH K ts a vs ns)) CX0 k fa fd [x] sp) (hb : ∀ (s : Shared) (u : Value), K.In s.heap → BindsTo s fd ⟨[u], []⟩ [(x, u)])
    (hc : ∀ b ∈ ts, ∃ cc, PySem.W.CodeHd s₁.heap cc b) (h : sp [.ref a] (begH K ts a vs ns) (fun v _ => v = .bl true) E0) :
    codeAny (model P w) callerA (.call (.ref fa) ⟨[.ref a], []⟩) (fun r s' => r = .ok (.ret (.bool true)) ∧ OldK s₁.heap s'.heap ∧ s'.os = s₁.os ∧ AllBare s'.gens) s₁ := by
  refine codeAny_mono (F.run callerA [] s₁ _ ⟨[.ref a], []⟩ [.ref a] [.ref a] _ E0 hr B.env0 (hb s₁ (.ref a) B.kin) (.cons rfl .nil) h) fun r s' z => ?_
  cases r with
  | error e => exact z.elim
  | ok fl =>
    cases fl with
    | ret u =>
      obtain ⟨v, H', os, bare, un, hok, rv, hv⟩ := z
      have hv2 : v = .bl true := hv
      subst hv2
      cases (show u = Value.bool true from rv)
      have old : ∀ b o, b ∉ ts → s₁.heap.get? b = some o → s'.heap.get? b = some o := fun b o nb e => by
        rcases begH_cases (K := K) (ts := ts) (a := a) (vs := vs) (ns := ns) b with q | ⟨hb, _⟩ | ⟨_, _, q⟩
        · exact un.keep b o e q (fun z => by cases z) (fun z => by cases z)
        · exact absurd hb nb
        · obtain ⟨e1, _⟩ := B.hok (P := P) (w := w) b _ q
          obtain ⟨e2, _⟩ := hok b _ (un.frzs b _ _ q)
          rw [e] at e1
          cases e1
          exact e2
      have tabs : ∀ b ∈ ts, ∃ more : Array Value, s'.heap.get? b = some { cls := .none, data := .fields more } := fun b hb => by
        have q : begH K ts a vs ns b = some (.tbl #[]) := if_pos hb
        obtain ⟨more, z⟩ := un.tbls b #[] q
        exact ⟨_, hok b _ z⟩
      refine ⟨rfl, ⟨fun b o e => ?_, fun b o e => ?_⟩, os, bare⟩
      · by_cases hb : b ∈ ts
        · obtain ⟨more, hm⟩ := tabs b hb
          obtain ⟨cc, C⟩ := hc b hb
          rw [B.tab b hb] at e
          cases e
          exact .inr (.inl ⟨(C.tab (B.tab b hb)).isCodeTable, rfl, #[], more, rfl, by rw [Array.empty_append]; exact hm⟩)
        · exact .inl (old b o hb e)
      · by_cases hb : b ∈ ts
        · obtain ⟨more, hm⟩ := tabs b hb
          exact ⟨_, hm⟩
        · exact ⟨o, old b o hb e⟩
    | next => exact z.elim
    | brk => exact z.elim
    | cont => exact z.elim
end
end
/-- A LAW HOLDS: its program's datum, its plain law -/
theorem walk_plain {l : PySem.W.OpenLaw} {m n : Nat} {q : Program} {loose : List Str} {XP : (Str → Option Value) → Heap → Prop} {d : DefRec} {s : HSpec} {dl : HDef} {x : Str} {lim : Nat}
    (hn : l.most = some lim) (hn2 : lim ≤ sizeLine) (hdf : d.params.defaults = []) (OK : HSpecOk s) (hl : s.def? "law" = some dl) (hg : s.G.fn d.name = some "law") (hps : dl.ps = [x]) (hd0 : dl.dfl = []) (hr : RoomG (2 * n) callerA)
    (plain : ∀ ns : List Int, ns.length ≤ lim → (∀ z ∈ ns, Builtin.Int.intBits z ≤ 1048576) → ∃ c, (calls s.P n).fn "law" [.scr ns] 0 [] = .ok (.bl true) c) :
    PySem.W.WalkO q loose XP (hookM m s).says l.row.toRowW d [] (fun f vs => PySem.call f vs) := by
  refine Att.attach_callB hn hdf fun w s₀ s₁ mg mb fa o pm cd doc a vs ns G Y ho hd hcd hmg hobj hints hlen hbits hgens => ?_
  obtain ⟨K, KX, c⟩ := Y
  have B : Beg l.prog w K mg mb (s.lams.map fun d => d.tab K) a vs ns s₁ := by
    refine ⟨KX, G.T.g, G.T.b, G.T.builtins, G.T.nolimit, hgens, fun b hb => ?_, fun b hb => ?_, hobj, hints, Nat.le_trans hlen hn2, G.T.bmain⟩
    · obtain ⟨d, hd, rfl⟩ := List.mem_map.mp hb; exact c.emp d hd
    · obtain ⟨d, hd, rfl⟩ := List.mem_map.mp hb; exact c.out d hd
  have TB : ∀ d ∈ s.lams, LamX.TabB (hidT s₁.heap (begH K (s.lams.map fun d => d.tab K) a vs ns)) mg (d.code K) (d.tab K) := fun d hd => B.tabB (List.mem_map.mpr ⟨d, hd, rfl⟩) (PySem.W.codeHd_of_K KX (c.hd d hd))
  have Fc := facts_of (prog := l.prog) OK c B.kinT (B.nsT B.glob) TB
  obtain ⟨F, fa2, fd, ps, h1, h2, h3, _⟩ := Fc.fn _ _ hg
  obtain ⟨_, _, D⟩ : True ∧ True ∧ _ := ⟨trivial, trivial, h2⟩
  have e1 : fa2 = fa := by
    have z : mg d.name = some (.ref fa2) := h3
    rw [hmg] at z
    cases z
    rfl
  subst e1
  have hps2 : ps = [x] := by
    obtain ⟨fd2, dvs, DA, D2⟩ := defF_of (prog := l.prog) OK c TB hl
    have hF : F = dl.fun s := by
      have z : (s.def? "law").map (HDef.fun s) = some F := h1
      rw [hl] at z
      cases z
      rfl
    have hl1 : ps.length = 1 := by rw [← h2.np, hF]; show dl.ps.length = 1; rw [hps]; rfl
    obtain ⟨x1, q1, p1, b1, sc1, dv1, kw1, fu1, la1, f1, s1, _⟩ := h2.ex
    have pre := s1.pre
    obtain ⟨x2, q2, p2, b2, sc2, dv2, kw2, fu2, la2, f2, s2, _⟩ := D2.ex
    have pre2 := s2.pre
    have eN : F.N = (dl.fun s).N := by rw [hF]
    rw [eN, hl1] at pre
    rw [hps] at pre2
    rw [← pre]
    exact pre2
  subst hps2
  have A := all_defs (S := ⟨l.prog, w, mg, hidT s₁.heap (begH K (s.lams.map fun d => d.tab K) a vs ns)⟩) Fc (eqF_of c) n
  have FO := A.1 "law" F fa2 fd [x] h1 h2 []
  refine B.ends hr FO (fun st u ki => ?_) (fun b hb => ?_) ?_
  · have z := h2.bd st [u] ki rfl
    simpa using z
  · obtain ⟨d, hd, rfl⟩ := List.mem_map.mp hb
    exact ⟨_, PySem.W.codeHd_of_K KX (c.hd d hd)⟩
  · obtain ⟨c2, hp⟩ := plain ns hlen hbits
    refine ⟨[], [], [], [.scr ns], ⟨rfl, .nil, fun n c e => by simp at e, fun p hp => ?_, (fun a ha => by cases ha), (fun a ha => by cases ha)⟩, .cons (.inl ?_) .nil, ?_⟩
    · obtain ⟨d, hd, rfl⟩ := List.mem_map.mp hp
      exact ⟨#[], if_pos (List.mem_map.mpr ⟨d, hd, rfl⟩), trivial, fun pos cv z => by cases z⟩
    · rcases B.seq with z | z
      · rcases z with z | ⟨o, z⟩
        · rcases begH_cases (K := K) (ts := s.lams.map fun d => d.tab K) (a := a) (vs := vs) (ns := ns) a with q | ⟨_, q⟩ | ⟨_, _, q⟩ <;> (rw [q] at z; cases z)
        · exact .scr z ⟨(fun q => by cases q), (fun q => by cases q)⟩
      · exact .scrK z
    · show Post _ _ _ _ _ _ (noExc ((calls s.P n).fn "law" [.scr ns] 0 []))
      rw [hp]
      intro ρ' H' e st v r
      cases r
      rfl
end MP
end
section
set_option maxRecDepth 100000
set_option maxHeartbeats 0
namespace Hk01
open PySem MP L2
def top (i : Nat) : Stmt := PySem.Challenge.pw_lookbacks_k01_plans_made.main.body.getD i (.Pass ⟨0, 0, 0, 0⟩)
def mem (i j : Nat) : Stmt := match top i with
  | .ClassDef _ _ _ b _ _ _ _ _ _ _ => b.getD j (.Pass ⟨0, 0, 0, 0⟩)
  | _ => .Pass ⟨0, 0, 0, 0⟩
def d_is_integer : HDef := ⟨"is_integer", none, "is_integer", false, "is_integer", "is_integer", top 23, ["value"], ["value"], .keep, false, []⟩
def d_is_between : HDef := ⟨"is_between", none, "is_between", false, "is_between", "is_between", top 24, ["value", "least", "most"], ["value", "least", "most"], .keep, false, []⟩
def d_is_constant : HDef := ⟨"is_constant", none, "is_constant", false, "is_constant", "is_constant", top 25, ["value"], ["value"], .keep, false, []⟩
def d_is_name : HDef := ⟨"is_name", none, "is_name", false, "is_name", "is_name", top 26, ["value", "sign"], ["value"], .keep, false, []⟩
def d_are_unlike : HDef := ⟨"are_unlike", none, "are_unlike", false, "are_unlike", "are_unlike", top 27, ["some", "each"], ["some"], .keep, false, []⟩
def d_is_plain : HDef := ⟨"is_plain", none, "is_plain", false, "is_plain", "is_plain", top 32, ["value", "columns"], ["value", "columns"], .keep, false, []⟩
def d_many_plain : HDef := ⟨"many_plain", none, "many_plain", false, "many_plain", "many_plain", top 33, ["value", "columns", "deep", "found", "part"], ["value", "columns", "deep"], .keep, false, []⟩
def d_is_test : HDef := ⟨"is_test", none, "is_test", false, "is_test", "is_test", top 34, ["value", "columns", "found"], ["value", "columns"], .keep, false, []⟩
def d_columns_in : HDef := ⟨"columns_in", none, "columns_in", false, "columns_in", "columns_in", top 35, ["test", "part", "column"], ["test"], .keep, false, []⟩
def d_are_pairs : HDef := ⟨"are_pairs", none, "are_pairs", false, "are_pairs", "are_pairs", top 55, ["value", "least", "sources", "pair"], ["value", "least", "sources"], .keep, false, []⟩
def d_AnyNames___contains__ : HDef := ⟨"AnyNames.__contains__", some "AnyNames", "__contains__", false, "__contains__", "AnyNames.__contains__", mem 56 0, ["self", "value"], ["self", "value"], .keep, false, []⟩
def d_is_free_test : HDef := ⟨"is_free_test", none, "is_free_test", false, "is_free_test", "is_free_test", top 57, ["value"], ["value"], .keep, false, []⟩
def d_is_kind : HDef := ⟨"is_kind", none, "is_kind", false, "is_kind", "is_kind", top 58, ["value"], ["value"], .keep, false, []⟩
def d_mentioned : HDef := ⟨"mentioned", none, "mentioned", false, "mentioned", "mentioned", top 59, ["kind", "found", "test", "pair"], ["kind"], .keep, false, []⟩
def d_Stand___init__ : HDef := ⟨"Stand.__init__", some "Stand", "__init__", false, "__init__", "Stand.__init__", mem 64 0, ["self", "table", "rules", "active"], ["self", "table", "rules", "active"], .keep, false, []⟩
def d_Stand_heads : HDef := ⟨"Stand.heads", some "Stand", "heads", true, "heads", "Stand.heads", mem 64 1, ["self", "pair"], ["self"], .keep, false, []⟩
def d_Stand_forced : HDef := ⟨"Stand.forced", some "Stand", "forced", true, "forced", "Stand.forced", mem 64 3, ["self", "pair"], ["self"], .keep, false, []⟩
def d_Stand_has_all : HDef := ⟨"Stand.has_all", some "Stand", "has_all", false, "has_all", "Stand.has_all", mem 64 4, ["self", "columns", "column"], ["self", "columns"], .keep, false, []⟩
def d_is_shaped : HDef := ⟨"is_shaped", none, "is_shaped", false, "is_shaped", "is_shaped", top 65, ["value"], ["value"], .keep, false, []⟩
def d_after_rule : HDef := ⟨"after_rule", none, "after_rule", false, "after_rule", "after_rule", top 66, ["stand", "step", "word", "name", "pair"], ["stand", "step"], .keep, false, []⟩
def d_after_writer : HDef := ⟨"after_writer", none, "after_writer", false, "after_writer", "after_writer", top 67, ["stand", "step", "writers", "word", "name", "known", "some", "each", "kind"], ["stand", "step", "writers"], .keep, false, []⟩
def d_after_column : HDef := ⟨"after_column", none, "after_column", false, "after_column", "after_column", top 68, ["stand", "step", "writers", "word", "name", "used", "table", "rule", "test", "column", "each", "kind", "pair", "old"], ["stand", "step", "writers"], .keep, false, []⟩
def d_after : HDef := ⟨"after", none, "after", false, "after", "after", top 69, ["stand", "value", "writers", "pair"], ["stand", "value", "writers"], .keep, false, []⟩
def d_is_pair : HDef := ⟨"is_pair", none, "is_pair", false, "is_pair", "is_pair", top 72, ["value"], ["value"], .keep, false, []⟩
def d_wrong_one : HDef := ⟨"wrong_one", none, "wrong_one", false, "wrong_one", "wrong_one", top 73, ["some", "most", "fits", "index", "each"], ["some", "most", "fits"], .keep, false, []⟩
def d_is_column : HDef := ⟨"is_column", none, "is_column", false, "is_column", "is_column", top 74, ["value", "ahead"], ["value", "ahead"], .keep, false, []⟩
def d_is_rule : HDef := ⟨"is_rule", none, "is_rule", false, "is_rule", "is_rule", top 75, ["value", "ahead", "columns"], ["value", "ahead", "columns"], .keep, false, []⟩
def d_is_writer : HDef := ⟨"is_writer", none, "is_writer", false, "is_writer", "is_writer", top 76, ["value", "ahead"], ["value", "ahead"], .keep, false, []⟩
def d_can_begin : HDef := ⟨"can_begin", none, "can_begin", false, "can_begin", "can_begin", top 77, ["value", "ahead", "writers", "columns", "column"], ["value", "ahead", "writers", "columns"], .keep, false, []⟩
def d_stands_of : HDef := ⟨"stands_of", none, "stands_of", false, "stands_of", "stands_of", top 78, ["table", "rules", "writers", "active", "steps", "found", "step", "later", "name", "kind"], ["table", "rules", "writers", "active", "steps"], .pure, false, []⟩
def d_Plan___init__ : HDef := ⟨"Plan.__init__", some "Plan", "__init__", false, "__init__", "Plan.__init__", mem 80 0, ["self", "table", "rules", "writers", "active", "steps", "columns", "pair"], ["self", "table", "rules", "writers", "active", "steps"], .keep, false, [.tup [], .tup [], .tup [], .tup []]⟩
def d_Plan___len__ : HDef := ⟨"Plan.__len__", some "Plan", "__len__", false, "__len__", "Plan.__len__", mem 80 2, ["self"], ["self"], .keep, false, []⟩
def d_Plan_stand : HDef := ⟨"Plan.stand", some "Plan", "stand", false, "stand", "Plan.stand", mem 80 3, ["self", "moment"], ["self", "moment"], .keep, false, []⟩
def d_Plan_columns : HDef := ⟨"Plan.columns", some "Plan", "columns", false, "columns", "Plan.columns", mem 80 4, ["self", "moment"], ["self", "moment"], .keep, false, []⟩
def d_Plan_in_force : HDef := ⟨"Plan.in_force", some "Plan", "in_force", false, "in_force", "Plan.in_force", mem 80 5, ["self", "moment"], ["self", "moment"], .keep, false, []⟩
def d_Plan_active_at : HDef := ⟨"Plan.active_at", some "Plan", "active_at", false, "active_at", "Plan.active_at", mem 80 6, ["self", "moment"], ["self", "moment"], .keep, false, []⟩
def d_Plan_parts : HDef := ⟨"Plan.parts", some "Plan", "parts", false, "parts", "Plan.parts", mem 80 10, ["self"], ["self"], .keep, false, []⟩
def d_Plan___eq__ : HDef := ⟨"Plan.__eq__", some "Plan", "__eq__", false, "__eq__", "Plan.__eq__", mem 80 13, ["self", "other"], ["self", "other"], .keep, false, []⟩
def d_check_table : HDef := ⟨"check_table", none, "check_table", false, "check_table", "check_table", top 81, ["table", "wrong"], ["table"], .keep, false, []⟩
def d_check_rules : HDef := ⟨"check_rules", none, "check_rules", false, "check_rules", "check_rules", top 82, ["rules", "columns", "wrong"], ["rules", "columns"], .keep, true, []⟩
def d_check_writers : HDef := ⟨"check_writers", none, "check_writers", false, "check_writers", "check_writers", top 83, ["writers", "wrong"], ["writers"], .keep, false, []⟩
def d_check_active : HDef := ⟨"check_active", none, "check_active", false, "check_active", "check_active", top 84, ["active", "writers", "columns", "wrong"], ["active", "writers", "columns"], .keep, true, []⟩
def d__law_bag : HDef := ⟨"_law_bag", none, "_law_bag", false, "_law_bag", "_law_bag", top 88, ["script", "k", "held_cell", "seed", "this", "held_signs"], ["script", "k"], .keep, false, []⟩
def d__law_draw : HDef := ⟨"_law_draw", none, "_law_draw", false, "_law_draw", "_law_draw", top 89, ["bag", "wide", "figure", "held", "times"], ["bag", "wide"], .keep, false, []⟩
def d__law_one : HDef := ⟨"_law_one", none, "_law_one", false, "_law_one", "_law_one", top 90, ["bag", "some"], ["bag", "some"], .keep, false, []⟩
def d__law_integer : HDef := ⟨"_law_integer", none, "_law_integer", false, "_law_integer", "_law_integer", top 91, ["bag"], ["bag"], .keep, false, []⟩
def d__law_plain : HDef := ⟨"_law_plain", none, "_law_plain", false, "_law_plain", "_law_plain", top 92, ["bag", "heads", "way", "column"], ["bag", "heads"], .keep, false, []⟩
def d__law_test : HDef := ⟨"_law_test", none, "_law_test", false, "_law_test", "_law_test", top 93, ["bag", "heads", "most", "deep", "here", "near"], ["bag", "heads", "most", "deep"], .keep, false, []⟩
def d__law_kind : HDef := ⟨"_law_kind", none, "_law_kind", false, "_law_kind", "_law_kind", top 94, ["bag", "heads", "way", "free", "pairs_here", "k", "source", "last_test"], ["bag", "heads"], .trunc, false, []⟩
def d__law_drawn_step : HDef := ⟨"_law_drawn_step", none, "_law_drawn_step", false, "_law_drawn_step", "_law_drawn_step", top 95, ["bag", "parts", "stand", "heads", "rules_here", "active_here", "way", "all_names", "fresh", "name", "column", "pair"], ["bag", "parts", "stand"], .keep, false, []⟩
def d__law_plan : HDef := ⟨"_law_plan", none, "_law_plan", false, "_law_plan", "_law_plan", top 96, ["bag", "wide", "most", "heads", "table_here", "rules_here", "some", "k", "active_here", "parts", "step", "column", "pair"], ["bag", "wide", "most"], .trunc, false, []⟩
def d__law_columns_in : HDef := ⟨"_law_columns_in", none, "_law_columns_in", false, "_law_columns_in", "_law_columns_in", top 97, ["shape", "found", "part"], ["shape"], .keep, false, []⟩
def d__law_mentioned : HDef := ⟨"_law_mentioned", none, "_law_mentioned", false, "_law_mentioned", "_law_mentioned", top 98, ["kind_here", "found", "shape", "pair"], ["kind_here"], .keep, false, []⟩
def d__law_after : HDef := ⟨"_law_after", none, "_law_after", false, "_law_after", "_law_after", top 99, ["parts", "stand", "step", "columns_here", "rules_here", "active_here", "heads", "ruled", "kinds_here", "word", "name", "rest", "some", "fine", "used", "each", "pair", "column", "old"], ["parts", "stand", "step"], .keep, false, []⟩
def d__law_stands : HDef := ⟨"_law_stands", none, "_law_stands", false, "_law_stands", "_law_stands", top 100, ["parts", "found", "step", "pair"], ["parts"], .trunc, false, []⟩
def d__law_made : HDef := ⟨"_law_made", none, "_law_made", false, "_law_made", "_law_made", top 101, ["parts"], ["parts"], .keep, false, []⟩
def d__law_heads : HDef := ⟨"_law_heads", none, "_law_heads", false, "_law_heads", "_law_heads", top 102, ["stand", "pair"], ["stand"], .keep, false, []⟩
def d__law_right : HDef := ⟨"_law_right", none, "_law_right", false, "_law_right", "_law_right", top 103, ["bag", "made", "turn", "parts", "mine", "stands_here", "mate", "told", "moment", "heads", "ruled", "active_here", "pair", "each"], ["bag"], .trunc, false, []⟩
def d_law : HDef := ⟨"law", none, "law", false, "law", "law", top 104, ["script", "mine", "k"], ["script"], .keep, false, []⟩
def defs : List HDef := (([d_is_integer, d_is_between, d_is_constant, d_is_name, d_are_unlike, d_is_plain, d_many_plain, d_is_test, d_columns_in, d_are_pairs, d_AnyNames___contains__, d_is_free_test, d_is_kind, d_mentioned, d_Stand___init__, d_Stand_heads, d_Stand_forced, d_Stand_has_all, d_is_shaped, d_after_rule, d_after_writer, d_after_column, d_after, d_is_pair] : List HDef) ++ ([d_wrong_one, d_is_column, d_is_rule, d_is_writer, d_can_begin, d_stands_of, d_Plan___init__, d_Plan___len__, d_Plan_stand, d_Plan_columns, d_Plan_in_force, d_Plan_active_at, d_Plan_parts, d_Plan___eq__, d_check_table, d_check_rules, d_check_writers, d_check_active, d__law_bag, d__law_draw, d__law_one, d__law_integer, d__law_plain, d__law_test] : List HDef) ++ ([d__law_kind, d__law_drawn_step, d__law_plan, d__law_columns_in, d__law_mentioned, d__law_after, d__law_stands, d__law_made, d__law_heads, d__law_right, d_law] : List HDef))
def gfn : List (Str × Str) := (([("is_integer", "is_integer"), ("is_between", "is_between"), ("is_constant", "is_constant"), ("is_name", "is_name"), ("are_unlike", "are_unlike"), ("is_plain", "is_plain"), ("many_plain", "many_plain"), ("is_test", "is_test"), ("columns_in", "columns_in"), ("are_pairs", "are_pairs"), ("is_free_test", "is_free_test"), ("is_kind", "is_kind"), ("mentioned", "mentioned"), ("is_shaped", "is_shaped"), ("after_rule", "after_rule"), ("after_writer", "after_writer"), ("after_column", "after_column"), ("after", "after"), ("is_pair", "is_pair"), ("wrong_one", "wrong_one"), ("is_column", "is_column"), ("is_rule", "is_rule"), ("is_writer", "is_writer"), ("can_begin", "can_begin")] : List (Str × Str)) ++ ([("stands_of", "stands_of"), ("check_table", "check_table"), ("check_rules", "check_rules"), ("check_writers", "check_writers"), ("check_active", "check_active"), ("_law_bag", "_law_bag"), ("_law_draw", "_law_draw"), ("_law_one", "_law_one"), ("_law_integer", "_law_integer"), ("_law_plain", "_law_plain"), ("_law_test", "_law_test"), ("_law_kind", "_law_kind"), ("_law_drawn_step", "_law_drawn_step"), ("_law_plan", "_law_plan"), ("_law_columns_in", "_law_columns_in"), ("_law_mentioned", "_law_mentioned"), ("_law_after", "_law_after"), ("_law_stands", "_law_stands"), ("_law_made", "_law_made"), ("_law_heads", "_law_heads"), ("_law_right", "_law_right"), ("law", "law")] : List (Str × Str)))
def spec : HSpec where
  defs := defs
  gfn := gfn
  gcl := ["Plan", "Stand", "AnyNames"]
  gcon := [("ANY", .str "any"), ("LETTERS", .str "abcdefghijklmnopqrstuvwxyz"), ("MOST_COLUMNS", .int (4)), ("MOST_CONSTANT", .int (900)), ("MOST_DEEP", .int (5)), ("MOST_FIRST", .int (3)), ("MOST_NAME", .int (8)), ("MOST_PLAIN", .int (6)), ("MOST_RULES", .int (4)), ("MOST_STEPS", .int (10)), ("MOST_WRITERS", .int (4)), ("ORDERS", .tup [.str "=", .str "<>", .str "<", .str "<=", .str ">", .str ">="]), ("WORDS", .tup [.str "and", .str "any", .str "default", .str "empty", .str "fill", .str "not", .str "or", .str "start", .str "true", .str "where", .str "with"]), ("is_column", .fn "is_column"), ("is_writer", .fn "is_writer")]
  gkd := [("SIZES", [("add", .int (3)), ("look", .int (2)), ("drop", .int (2)), ("begin", .int (2)), ("end", .int (2)), ("default", .int (3)), ("column", .int (3)), ("remove", .int (2)), ("fill", .int (3))])]
  gfree := ["len", "tuple", "list", "dict", "int", "str", "abs", "max", "min", "sum", "all", "repr", "isinstance", "range", "enumerate", "bool"]
  fld := [("Plan", "stands"), ("Plan", "table"), ("Plan", "rules"), ("Plan", "writers"), ("Plan", "active"), ("Plan", "steps"), ("Stand", "table"), ("Stand", "rules"), ("Stand", "active")]
  ini0 := ["AnyNames"]
  below := [(("Plan", .own "Plan"), true)]
  kw := [(("Plan.__init__", 1, ["steps", "active", "writers", "rules", "table"]), ([0, 5, 4, 3, 2, 1], [])), (("Plan.columns", 1, ["moment"]), ([0, 1], [])), (("Plan.in_force", 1, ["moment"]), ([0, 1], [])), (("Plan.active_at", 1, ["moment"]), ([0, 1], []))]
  mt := fun p => decide ((p.line, p.col) ∈ ([(342, 12), (466, 11), (497, 48), (497, 61), (530, 11), (534, 12), (585, 12), (594, 11)] : List (Nat × Nat)))
  fuel := 60
theorem a_is_integer : HDef.At0 d_is_integer := fun kV doc pm an cdv ct us (hl : us.length = 1) => match us, hl with
  | [_], _ => by kernel_rfl
theorem o_is_integer : HDefOk d_is_integer := ⟨⟨rfl, rfl, rfl, by decide +kernel, rfl, by decide +kernel, by decide +kernel⟩, fun _ => a_is_integer, fun h => absurd rfl h⟩
theorem a_is_between : HDef.At0 d_is_between := fun kV doc pm an cdv ct us (hl : us.length = 3) => match us, hl with
  | [_, _, _], _ => by kernel_rfl
theorem o_is_between : HDefOk d_is_between := ⟨⟨rfl, rfl, rfl, by decide +kernel, rfl, by decide +kernel, by decide +kernel⟩, fun _ => a_is_between, fun h => absurd rfl h⟩
theorem a_is_constant : HDef.At0 d_is_constant := fun kV doc pm an cdv ct us (hl : us.length = 1) => match us, hl with
  | [_], _ => by kernel_rfl
theorem o_is_constant : HDefOk d_is_constant := ⟨⟨rfl, rfl, rfl, by decide +kernel, rfl, by decide +kernel, by decide +kernel⟩, fun _ => a_is_constant, fun h => absurd rfl h⟩
theorem a_is_name : HDef.At0 d_is_name := fun kV doc pm an cdv ct us (hl : us.length = 1) => match us, hl with
  | [_], _ => by kernel_rfl
theorem o_is_name : HDefOk d_is_name := ⟨⟨rfl, rfl, rfl, by decide +kernel, rfl, by decide +kernel, by decide +kernel⟩, fun _ => a_is_name, fun h => absurd rfl h⟩
theorem a_are_unlike : HDef.At0 d_are_unlike := fun kV doc pm an cdv ct us (hl : us.length = 1) => match us, hl with
  | [_], _ => by kernel_rfl
theorem o_are_unlike : HDefOk d_are_unlike := ⟨⟨rfl, rfl, rfl, by decide +kernel, rfl, by decide +kernel, by decide +kernel⟩, fun _ => a_are_unlike, fun h => absurd rfl h⟩
theorem a_is_plain : HDef.At0 d_is_plain := fun kV doc pm an cdv ct us (hl : us.length = 2) => match us, hl with
  | [_, _], _ => by kernel_rfl
theorem o_is_plain : HDefOk d_is_plain := ⟨⟨rfl, rfl, rfl, by decide +kernel, rfl, by decide +kernel, by decide +kernel⟩, fun _ => a_is_plain, fun h => absurd rfl h⟩
theorem a_many_plain : HDef.At0 d_many_plain := fun kV doc pm an cdv ct us (hl : us.length = 3) => match us, hl with
  | [_, _, _], _ => by kernel_rfl
theorem o_many_plain : HDefOk d_many_plain := ⟨⟨rfl, rfl, rfl, by decide +kernel, rfl, by decide +kernel, by decide +kernel⟩, fun _ => a_many_plain, fun h => absurd rfl h⟩
theorem a_is_test : HDef.At0 d_is_test := fun kV doc pm an cdv ct us (hl : us.length = 2) => match us, hl with
  | [_, _], _ => by kernel_rfl
theorem o_is_test : HDefOk d_is_test := ⟨⟨rfl, rfl, rfl, by decide +kernel, rfl, by decide +kernel, by decide +kernel⟩, fun _ => a_is_test, fun h => absurd rfl h⟩
theorem a_columns_in : HDef.At0 d_columns_in := fun kV doc pm an cdv ct us (hl : us.length = 1) => match us, hl with
  | [_], _ => by kernel_rfl
theorem o_columns_in : HDefOk d_columns_in := ⟨⟨rfl, rfl, rfl, by decide +kernel, rfl, by decide +kernel, by decide +kernel⟩, fun _ => a_columns_in, fun h => absurd rfl h⟩
theorem a_are_pairs : HDef.At0 d_are_pairs := fun kV doc pm an cdv ct us (hl : us.length = 3) => match us, hl with
  | [_, _, _], _ => by kernel_rfl
theorem o_are_pairs : HDefOk d_are_pairs := ⟨⟨rfl, rfl, rfl, by decide +kernel, rfl, by decide +kernel, by decide +kernel⟩, fun _ => a_are_pairs, fun h => absurd rfl h⟩
theorem a_AnyNames___contains__ : HDef.At0 d_AnyNames___contains__ := fun kV doc pm an cdv ct us (hl : us.length = 2) => match us, hl with
  | [_, _], _ => by kernel_rfl
theorem o_AnyNames___contains__ : HDefOk d_AnyNames___contains__ := ⟨⟨rfl, rfl, rfl, by decide +kernel, rfl, by decide +kernel, by decide +kernel⟩, fun _ => a_AnyNames___contains__, fun h => absurd rfl h⟩
theorem a_is_free_test : HDef.At0 d_is_free_test := fun kV doc pm an cdv ct us (hl : us.length = 1) => match us, hl with
  | [_], _ => by kernel_rfl
theorem o_is_free_test : HDefOk d_is_free_test := ⟨⟨rfl, rfl, rfl, by decide +kernel, rfl, by decide +kernel, by decide +kernel⟩, fun _ => a_is_free_test, fun h => absurd rfl h⟩
theorem a_is_kind : HDef.At0 d_is_kind := fun kV doc pm an cdv ct us (hl : us.length = 1) => match us, hl with
  | [_], _ => by kernel_rfl
theorem o_is_kind : HDefOk d_is_kind := ⟨⟨rfl, rfl, rfl, by decide +kernel, rfl, by decide +kernel, by decide +kernel⟩, fun _ => a_is_kind, fun h => absurd rfl h⟩
theorem a_mentioned : HDef.At0 d_mentioned := fun kV doc pm an cdv ct us (hl : us.length = 1) => match us, hl with
  | [_], _ => by kernel_rfl
theorem o_mentioned : HDefOk d_mentioned := ⟨⟨rfl, rfl, rfl, by decide +kernel, rfl, by decide +kernel, by decide +kernel⟩, fun _ => a_mentioned, fun h => absurd rfl h⟩
theorem a_Stand___init__ : HDef.At0 d_Stand___init__ := fun kV doc pm an cdv ct us (hl : us.length = 4) => match us, hl with
  | [_, _, _, _], _ => by kernel_rfl
theorem o_Stand___init__ : HDefOk d_Stand___init__ := ⟨⟨rfl, rfl, rfl, by decide +kernel, rfl, by decide +kernel, by decide +kernel⟩, fun _ => a_Stand___init__, fun h => absurd rfl h⟩
theorem a_Stand_heads : HDef.At0 d_Stand_heads := fun kV doc pm an cdv ct us (hl : us.length = 1) => match us, hl with
  | [_], _ => by kernel_rfl
theorem o_Stand_heads : HDefOk d_Stand_heads := ⟨⟨rfl, rfl, rfl, by decide +kernel, rfl, by decide +kernel, by decide +kernel⟩, fun _ => a_Stand_heads, fun h => absurd rfl h⟩
theorem a_Stand_forced : HDef.At0 d_Stand_forced := fun kV doc pm an cdv ct us (hl : us.length = 1) => match us, hl with
  | [_], _ => by kernel_rfl
theorem o_Stand_forced : HDefOk d_Stand_forced := ⟨⟨rfl, rfl, rfl, by decide +kernel, rfl, by decide +kernel, by decide +kernel⟩, fun _ => a_Stand_forced, fun h => absurd rfl h⟩
theorem a_Stand_has_all : HDef.At0 d_Stand_has_all := fun kV doc pm an cdv ct us (hl : us.length = 2) => match us, hl with
  | [_, _], _ => by kernel_rfl
theorem o_Stand_has_all : HDefOk d_Stand_has_all := ⟨⟨rfl, rfl, rfl, by decide +kernel, rfl, by decide +kernel, by decide +kernel⟩, fun _ => a_Stand_has_all, fun h => absurd rfl h⟩
theorem a_is_shaped : HDef.At0 d_is_shaped := fun kV doc pm an cdv ct us (hl : us.length = 1) => match us, hl with
  | [_], _ => by kernel_rfl
theorem o_is_shaped : HDefOk d_is_shaped := ⟨⟨rfl, rfl, rfl, by decide +kernel, rfl, by decide +kernel, by decide +kernel⟩, fun _ => a_is_shaped, fun h => absurd rfl h⟩
theorem a_after_rule : HDef.At0 d_after_rule := fun kV doc pm an cdv ct us (hl : us.length = 2) => match us, hl with
  | [_, _], _ => by kernel_rfl
theorem o_after_rule : HDefOk d_after_rule := ⟨⟨rfl, rfl, rfl, by decide +kernel, rfl, by decide +kernel, by decide +kernel⟩, fun _ => a_after_rule, fun h => absurd rfl h⟩
theorem a_after_writer : HDef.At0 d_after_writer := fun kV doc pm an cdv ct us (hl : us.length = 3) => match us, hl with
  | [_, _, _], _ => by kernel_rfl
theorem o_after_writer : HDefOk d_after_writer := ⟨⟨rfl, rfl, rfl, by decide +kernel, rfl, by decide +kernel, by decide +kernel⟩, fun _ => a_after_writer, fun h => absurd rfl h⟩
theorem a_after_column : HDef.At0 d_after_column := fun kV doc pm an cdv ct us (hl : us.length = 3) => match us, hl with
  | [_, _, _], _ => by kernel_rfl
theorem o_after_column : HDefOk d_after_column := ⟨⟨rfl, rfl, rfl, by decide +kernel, rfl, by decide +kernel, by decide +kernel⟩, fun _ => a_after_column, fun h => absurd rfl h⟩
theorem a_after : HDef.At0 d_after := fun kV doc pm an cdv ct us (hl : us.length = 3) => match us, hl with
  | [_, _, _], _ => by kernel_rfl
theorem o_after : HDefOk d_after := ⟨⟨rfl, rfl, rfl, by decide +kernel, rfl, by decide +kernel, by decide +kernel⟩, fun _ => a_after, fun h => absurd rfl h⟩
theorem a_is_pair : HDef.At0 d_is_pair := fun kV doc pm an cdv ct us (hl : us.length = 1) => match us, hl with
  | [_], _ => by kernel_rfl
theorem o_is_pair : HDefOk d_is_pair := ⟨⟨rfl, rfl, rfl, by decide +kernel, rfl, by decide +kernel, by decide +kernel⟩, fun _ => a_is_pair, fun h => absurd rfl h⟩
theorem a_wrong_one : HDef.At0 d_wrong_one := fun kV doc pm an cdv ct us (hl : us.length = 3) => match us, hl with
  | [_, _, _], _ => by kernel_rfl
theorem o_wrong_one : HDefOk d_wrong_one := ⟨⟨rfl, rfl, rfl, by decide +kernel, rfl, by decide +kernel, by decide +kernel⟩, fun _ => a_wrong_one, fun h => absurd rfl h⟩
theorem a_is_column : HDef.At0 d_is_column := fun kV doc pm an cdv ct us (hl : us.length = 2) => match us, hl with
  | [_, _], _ => by kernel_rfl
theorem o_is_column : HDefOk d_is_column := ⟨⟨rfl, rfl, rfl, by decide +kernel, rfl, by decide +kernel, by decide +kernel⟩, fun _ => a_is_column, fun h => absurd rfl h⟩
theorem a_is_rule : HDef.At0 d_is_rule := fun kV doc pm an cdv ct us (hl : us.length = 3) => match us, hl with
  | [_, _, _], _ => by kernel_rfl
theorem o_is_rule : HDefOk d_is_rule := ⟨⟨rfl, rfl, rfl, by decide +kernel, rfl, by decide +kernel, by decide +kernel⟩, fun _ => a_is_rule, fun h => absurd rfl h⟩
theorem a_is_writer : HDef.At0 d_is_writer := fun kV doc pm an cdv ct us (hl : us.length = 2) => match us, hl with
  | [_, _], _ => by kernel_rfl
theorem o_is_writer : HDefOk d_is_writer := ⟨⟨rfl, rfl, rfl, by decide +kernel, rfl, by decide +kernel, by decide +kernel⟩, fun _ => a_is_writer, fun h => absurd rfl h⟩
theorem a_can_begin : HDef.At0 d_can_begin := fun kV doc pm an cdv ct us (hl : us.length = 4) => match us, hl with
  | [_, _, _, _], _ => by kernel_rfl
theorem o_can_begin : HDefOk d_can_begin := ⟨⟨rfl, rfl, rfl, by decide +kernel, rfl, by decide +kernel, by decide +kernel⟩, fun _ => a_can_begin, fun h => absurd rfl h⟩
theorem a_stands_of : HDef.At0 d_stands_of := fun kV doc pm an cdv ct us (hl : us.length = 5) => match us, hl with
  | [_, _, _, _, _], _ => by kernel_rfl
theorem o_stands_of : HDefOk d_stands_of := ⟨⟨rfl, rfl, rfl, by decide +kernel, rfl, by decide +kernel, by decide +kernel⟩, fun _ => a_stands_of, fun h => absurd rfl h⟩
theorem a_Plan___init___2 : HDef.At1 d_Plan___init__ 2 := fun tup kV doc pm an cdv ct us its (hl : us.length = 2) (hd : its.length = 4) => match us, its, hl, hd with
  | [_, _], [_, _, _, _], _, _ => ⟨_, by rfl, by rfl⟩
theorem a_Plan___init___3 : HDef.At1 d_Plan___init__ 3 := fun tup kV doc pm an cdv ct us its (hl : us.length = 3) (hd : its.length = 4) => match us, its, hl, hd with
  | [_, _, _], [_, _, _, _], _, _ => ⟨_, by rfl, by rfl⟩
theorem a_Plan___init___4 : HDef.At1 d_Plan___init__ 4 := fun tup kV doc pm an cdv ct us its (hl : us.length = 4) (hd : its.length = 4) => match us, its, hl, hd with
  | [_, _, _, _], [_, _, _, _], _, _ => ⟨_, by rfl, by rfl⟩
theorem a_Plan___init___5 : HDef.At1 d_Plan___init__ 5 := fun tup kV doc pm an cdv ct us its (hl : us.length = 5) (hd : its.length = 4) => match us, its, hl, hd with
  | [_, _, _, _, _], [_, _, _, _], _, _ => ⟨_, by rfl, by rfl⟩
theorem a_Plan___init___6 : HDef.At1 d_Plan___init__ 6 := fun tup kV doc pm an cdv ct us its (hl : us.length = 6) (hd : its.length = 4) => match us, its, hl, hd with
  | [_, _, _, _, _, _], [_, _, _, _], _, _ => ⟨_, by rfl, by rfl⟩
theorem o_Plan___init__ : HDefOk d_Plan___init__ := ⟨⟨rfl, rfl, rfl, by decide +kernel, rfl, by decide +kernel, by decide +kernel⟩, (fun h => nomatch h), fun _ m h1 h2 => by
  have h1 : 6 ≤ m + 4 := h1
  have h2 : m ≤ 6 := h2
  have : m = 2 ∨ m = 3 ∨ m = 4 ∨ m = 5 ∨ m = 6 := by omega
  rcases this with rfl | rfl | rfl | rfl | rfl
  all_goals first | exact a_Plan___init___2 | exact a_Plan___init___3 | exact a_Plan___init___4 | exact a_Plan___init___5 | exact a_Plan___init___6⟩
theorem a_Plan___len__ : HDef.At0 d_Plan___len__ := fun kV doc pm an cdv ct us (hl : us.length = 1) => match us, hl with
  | [_], _ => by kernel_rfl
theorem o_Plan___len__ : HDefOk d_Plan___len__ := ⟨⟨rfl, rfl, rfl, by decide +kernel, rfl, by decide +kernel, by decide +kernel⟩, fun _ => a_Plan___len__, fun h => absurd rfl h⟩
theorem a_Plan_stand : HDef.At0 d_Plan_stand := fun kV doc pm an cdv ct us (hl : us.length = 2) => match us, hl with
  | [_, _], _ => by kernel_rfl
theorem o_Plan_stand : HDefOk d_Plan_stand := ⟨⟨rfl, rfl, rfl, by decide +kernel, rfl, by decide +kernel, by decide +kernel⟩, fun _ => a_Plan_stand, fun h => absurd rfl h⟩
theorem a_Plan_columns : HDef.At0 d_Plan_columns := fun kV doc pm an cdv ct us (hl : us.length = 2) => match us, hl with
  | [_, _], _ => by kernel_rfl
theorem o_Plan_columns : HDefOk d_Plan_columns := ⟨⟨rfl, rfl, rfl, by decide +kernel, rfl, by decide +kernel, by decide +kernel⟩, fun _ => a_Plan_columns, fun h => absurd rfl h⟩
theorem a_Plan_in_force : HDef.At0 d_Plan_in_force := fun kV doc pm an cdv ct us (hl : us.length = 2) => match us, hl with
  | [_, _], _ => by kernel_rfl
theorem o_Plan_in_force : HDefOk d_Plan_in_force := ⟨⟨rfl, rfl, rfl, by decide +kernel, rfl, by decide +kernel, by decide +kernel⟩, fun _ => a_Plan_in_force, fun h => absurd rfl h⟩
theorem a_Plan_active_at : HDef.At0 d_Plan_active_at := fun kV doc pm an cdv ct us (hl : us.length = 2) => match us, hl with
  | [_, _], _ => by kernel_rfl
theorem o_Plan_active_at : HDefOk d_Plan_active_at := ⟨⟨rfl, rfl, rfl, by decide +kernel, rfl, by decide +kernel, by decide +kernel⟩, fun _ => a_Plan_active_at, fun h => absurd rfl h⟩
theorem a_Plan_parts : HDef.At0 d_Plan_parts := fun kV doc pm an cdv ct us (hl : us.length = 1) => match us, hl with
  | [_], _ => by kernel_rfl
theorem o_Plan_parts : HDefOk d_Plan_parts := ⟨⟨rfl, rfl, rfl, by decide +kernel, rfl, by decide +kernel, by decide +kernel⟩, fun _ => a_Plan_parts, fun h => absurd rfl h⟩
theorem a_Plan___eq__ : HDef.At0 d_Plan___eq__ := fun kV doc pm an cdv ct us (hl : us.length = 2) => match us, hl with
  | [_, _], _ => by kernel_rfl
theorem o_Plan___eq__ : HDefOk d_Plan___eq__ := ⟨⟨rfl, rfl, rfl, by decide +kernel, rfl, by decide +kernel, by decide +kernel⟩, fun _ => a_Plan___eq__, fun h => absurd rfl h⟩
theorem a_check_table : HDef.At0 d_check_table := fun kV doc pm an cdv ct us (hl : us.length = 1) => match us, hl with
  | [_], _ => by kernel_rfl
theorem o_check_table : HDefOk d_check_table := ⟨⟨rfl, rfl, rfl, by decide +kernel, rfl, by decide +kernel, by decide +kernel⟩, fun _ => a_check_table, fun h => absurd rfl h⟩
theorem a_check_rules : HDef.At0 d_check_rules := fun kV doc pm an cdv ct us (hl : us.length = 2) => match us, hl with
  | [_, _], _ => by kernel_rfl
theorem o_check_rules : HDefOk d_check_rules := ⟨⟨rfl, rfl, rfl, by decide +kernel, rfl, by decide +kernel, by decide +kernel⟩, fun _ => a_check_rules, fun h => absurd rfl h⟩
theorem a_check_writers : HDef.At0 d_check_writers := fun kV doc pm an cdv ct us (hl : us.length = 1) => match us, hl with
  | [_], _ => by kernel_rfl
theorem o_check_writers : HDefOk d_check_writers := ⟨⟨rfl, rfl, rfl, by decide +kernel, rfl, by decide +kernel, by decide +kernel⟩, fun _ => a_check_writers, fun h => absurd rfl h⟩
theorem a_check_active : HDef.At0 d_check_active := fun kV doc pm an cdv ct us (hl : us.length = 3) => match us, hl with
  | [_, _, _], _ => by kernel_rfl
theorem o_check_active : HDefOk d_check_active := ⟨⟨rfl, rfl, rfl, by decide +kernel, rfl, by decide +kernel, by decide +kernel⟩, fun _ => a_check_active, fun h => absurd rfl h⟩
theorem a__law_bag : HDef.At0 d__law_bag := fun kV doc pm an cdv ct us (hl : us.length = 2) => match us, hl with
  | [_, _], _ => by kernel_rfl
theorem o__law_bag : HDefOk d__law_bag := ⟨⟨rfl, rfl, rfl, by decide +kernel, rfl, by decide +kernel, by decide +kernel⟩, fun _ => a__law_bag, fun h => absurd rfl h⟩
theorem a__law_draw : HDef.At0 d__law_draw := fun kV doc pm an cdv ct us (hl : us.length = 2) => match us, hl with
  | [_, _], _ => by kernel_rfl
theorem o__law_draw : HDefOk d__law_draw := ⟨⟨rfl, rfl, rfl, by decide +kernel, rfl, by decide +kernel, by decide +kernel⟩, fun _ => a__law_draw, fun h => absurd rfl h⟩
theorem a__law_one : HDef.At0 d__law_one := fun kV doc pm an cdv ct us (hl : us.length = 2) => match us, hl with
  | [_, _], _ => by kernel_rfl
theorem o__law_one : HDefOk d__law_one := ⟨⟨rfl, rfl, rfl, by decide +kernel, rfl, by decide +kernel, by decide +kernel⟩, fun _ => a__law_one, fun h => absurd rfl h⟩
theorem a__law_integer : HDef.At0 d__law_integer := fun kV doc pm an cdv ct us (hl : us.length = 1) => match us, hl with
  | [_], _ => by kernel_rfl
theorem o__law_integer : HDefOk d__law_integer := ⟨⟨rfl, rfl, rfl, by decide +kernel, rfl, by decide +kernel, by decide +kernel⟩, fun _ => a__law_integer, fun h => absurd rfl h⟩
theorem a__law_plain : HDef.At0 d__law_plain := fun kV doc pm an cdv ct us (hl : us.length = 2) => match us, hl with
  | [_, _], _ => by kernel_rfl
theorem o__law_plain : HDefOk d__law_plain := ⟨⟨rfl, rfl, rfl, by decide +kernel, rfl, by decide +kernel, by decide +kernel⟩, fun _ => a__law_plain, fun h => absurd rfl h⟩
theorem a__law_test : HDef.At0 d__law_test := fun kV doc pm an cdv ct us (hl : us.length = 4) => match us, hl with
  | [_, _, _, _], _ => by kernel_rfl
theorem o__law_test : HDefOk d__law_test := ⟨⟨rfl, rfl, rfl, by decide +kernel, rfl, by decide +kernel, by decide +kernel⟩, fun _ => a__law_test, fun h => absurd rfl h⟩
theorem a__law_kind : HDef.At0 d__law_kind := fun kV doc pm an cdv ct us (hl : us.length = 2) => match us, hl with
  | [_, _], _ => by kernel_rfl
theorem o__law_kind : HDefOk d__law_kind := ⟨⟨rfl, rfl, rfl, by decide +kernel, rfl, by decide +kernel, by decide +kernel⟩, fun _ => a__law_kind, fun h => absurd rfl h⟩
theorem a__law_drawn_step : HDef.At0 d__law_drawn_step := fun kV doc pm an cdv ct us (hl : us.length = 3) => match us, hl with
  | [_, _, _], _ => by kernel_rfl
theorem o__law_drawn_step : HDefOk d__law_drawn_step := ⟨⟨rfl, rfl, rfl, by decide +kernel, rfl, by decide +kernel, by decide +kernel⟩, fun _ => a__law_drawn_step, fun h => absurd rfl h⟩
theorem a__law_plan : HDef.At0 d__law_plan := fun kV doc pm an cdv ct us (hl : us.length = 3) => match us, hl with
  | [_, _, _], _ => by kernel_rfl
theorem o__law_plan : HDefOk d__law_plan := ⟨⟨rfl, rfl, rfl, by decide +kernel, rfl, by decide +kernel, by decide +kernel⟩, fun _ => a__law_plan, fun h => absurd rfl h⟩
theorem a__law_columns_in : HDef.At0 d__law_columns_in := fun kV doc pm an cdv ct us (hl : us.length = 1) => match us, hl with
  | [_], _ => by kernel_rfl
theorem o__law_columns_in : HDefOk d__law_columns_in := ⟨⟨rfl, rfl, rfl, by decide +kernel, rfl, by decide +kernel, by decide +kernel⟩, fun _ => a__law_columns_in, fun h => absurd rfl h⟩
theorem a__law_mentioned : HDef.At0 d__law_mentioned := fun kV doc pm an cdv ct us (hl : us.length = 1) => match us, hl with
  | [_], _ => by kernel_rfl
theorem o__law_mentioned : HDefOk d__law_mentioned := ⟨⟨rfl, rfl, rfl, by decide +kernel, rfl, by decide +kernel, by decide +kernel⟩, fun _ => a__law_mentioned, fun h => absurd rfl h⟩
theorem a__law_after : HDef.At0 d__law_after := fun kV doc pm an cdv ct us (hl : us.length = 3) => match us, hl with
  | [_, _, _], _ => by kernel_rfl
theorem o__law_after : HDefOk d__law_after := ⟨⟨rfl, rfl, rfl, by decide +kernel, rfl, by decide +kernel, by decide +kernel⟩, fun _ => a__law_after, fun h => absurd rfl h⟩
theorem a__law_stands : HDef.At0 d__law_stands := fun kV doc pm an cdv ct us (hl : us.length = 1) => match us, hl with
  | [_], _ => by kernel_rfl
theorem o__law_stands : HDefOk d__law_stands := ⟨⟨rfl, rfl, rfl, by decide +kernel, rfl, by decide +kernel, by decide +kernel⟩, fun _ => a__law_stands, fun h => absurd rfl h⟩
theorem a__law_made : HDef.At0 d__law_made := fun kV doc pm an cdv ct us (hl : us.length = 1) => match us, hl with
  | [_], _ => by kernel_rfl
theorem o__law_made : HDefOk d__law_made := ⟨⟨rfl, rfl, rfl, by decide +kernel, rfl, by decide +kernel, by decide +kernel⟩, fun _ => a__law_made, fun h => absurd rfl h⟩
theorem a__law_heads : HDef.At0 d__law_heads := fun kV doc pm an cdv ct us (hl : us.length = 1) => match us, hl with
  | [_], _ => by kernel_rfl
theorem o__law_heads : HDefOk d__law_heads := ⟨⟨rfl, rfl, rfl, by decide +kernel, rfl, by decide +kernel, by decide +kernel⟩, fun _ => a__law_heads, fun h => absurd rfl h⟩
theorem a__law_right : HDef.At0 d__law_right := fun kV doc pm an cdv ct us (hl : us.length = 1) => match us, hl with
  | [_], _ => by kernel_rfl
theorem o__law_right : HDefOk d__law_right := ⟨⟨rfl, rfl, rfl, by decide +kernel, rfl, by decide +kernel, by decide +kernel⟩, fun _ => a__law_right, fun h => absurd rfl h⟩
theorem a_law : HDef.At0 d_law := fun kV doc pm an cdv ct us (hl : us.length = 1) => match us, hl with
  | [_], _ => by kernel_rfl
theorem o_law : HDefOk d_law := ⟨⟨rfl, rfl, rfl, by decide +kernel, rfl, by decide +kernel, by decide +kernel⟩, fun _ => a_law, fun h => absurd rfl h⟩
theorem k_0 : HDef.Kw1 d_Plan___init__ 1 ["steps", "active", "writers", "rules", "table"] [0, 5, 4, 3, 2, 1] [] := fun tup kV doc pm an cdv ct us ws its (hl : us.length = 1) (hw : ws.length = 5) (hd : its.length = 4) => match us, ws, its, hl, hw, hd with
  | [_], [_, _, _, _, _], [_, _, _, _], _, _, _ => ⟨_, by rfl, by rfl⟩
theorem k_1 : HDef.Kw0 d_Plan_columns 1 ["moment"] [0, 1] := fun kV doc pm an cdv ct us ws (hl : us.length = 1) (hw : ws.length = 1) => match us, ws, hl, hw with
  | [_], [_], _, _ => by kernel_rfl
theorem k_2 : HDef.Kw0 d_Plan_in_force 1 ["moment"] [0, 1] := fun kV doc pm an cdv ct us ws (hl : us.length = 1) (hw : ws.length = 1) => match us, ws, hl, hw with
  | [_], [_], _, _ => by kernel_rfl
theorem k_3 : HDef.Kw0 d_Plan_active_at 1 ["moment"] [0, 1] := fun kV doc pm an cdv ct us ws (hl : us.length = 1) (hw : ws.length = 1) => match us, ws, hl, hw with
  | [_], [_], _, _ => by kernel_rfl
theorem all_0 : ∀ d ∈ ([d_is_integer, d_is_between, d_is_constant, d_is_name, d_are_unlike, d_is_plain, d_many_plain, d_is_test, d_columns_in, d_are_pairs, d_AnyNames___contains__, d_is_free_test, d_is_kind, d_mentioned, d_Stand___init__, d_Stand_heads, d_Stand_forced, d_Stand_has_all, d_is_shaped, d_after_rule, d_after_writer, d_after_column, d_after, d_is_pair] : List HDef), HDefOk d := List.forall_mem_cons.2 ⟨o_is_integer, List.forall_mem_cons.2 ⟨o_is_between, List.forall_mem_cons.2 ⟨o_is_constant, List.forall_mem_cons.2 ⟨o_is_name, List.forall_mem_cons.2 ⟨o_are_unlike, List.forall_mem_cons.2 ⟨o_is_plain, List.forall_mem_cons.2 ⟨o_many_plain, List.forall_mem_cons.2 ⟨o_is_test, List.forall_mem_cons.2 ⟨o_columns_in, List.forall_mem_cons.2 ⟨o_are_pairs, List.forall_mem_cons.2 ⟨o_AnyNames___contains__, List.forall_mem_cons.2 ⟨o_is_free_test, List.forall_mem_cons.2 ⟨o_is_kind, List.forall_mem_cons.2 ⟨o_mentioned, List.forall_mem_cons.2 ⟨o_Stand___init__, List.forall_mem_cons.2 ⟨o_Stand_heads, List.forall_mem_cons.2 ⟨o_Stand_forced, List.forall_mem_cons.2 ⟨o_Stand_has_all, List.forall_mem_cons.2 ⟨o_is_shaped, List.forall_mem_cons.2 ⟨o_after_rule, List.forall_mem_cons.2 ⟨o_after_writer, List.forall_mem_cons.2 ⟨o_after_column, List.forall_mem_cons.2 ⟨o_after, List.forall_mem_cons.2 ⟨o_is_pair, List.forall_mem_nil _⟩⟩⟩⟩⟩⟩⟩⟩⟩⟩⟩⟩⟩⟩⟩⟩⟩⟩⟩⟩⟩⟩⟩⟩
theorem all_1 : ∀ d ∈ ([d_wrong_one, d_is_column, d_is_rule, d_is_writer, d_can_begin, d_stands_of, d_Plan___init__, d_Plan___len__, d_Plan_stand, d_Plan_columns, d_Plan_in_force, d_Plan_active_at, d_Plan_parts, d_Plan___eq__, d_check_table, d_check_rules, d_check_writers, d_check_active, d__law_bag, d__law_draw, d__law_one, d__law_integer, d__law_plain, d__law_test] : List HDef), HDefOk d := List.forall_mem_cons.2 ⟨o_wrong_one, List.forall_mem_cons.2 ⟨o_is_column, List.forall_mem_cons.2 ⟨o_is_rule, List.forall_mem_cons.2 ⟨o_is_writer, List.forall_mem_cons.2 ⟨o_can_begin, List.forall_mem_cons.2 ⟨o_stands_of, List.forall_mem_cons.2 ⟨o_Plan___init__, List.forall_mem_cons.2 ⟨o_Plan___len__, List.forall_mem_cons.2 ⟨o_Plan_stand, List.forall_mem_cons.2 ⟨o_Plan_columns, List.forall_mem_cons.2 ⟨o_Plan_in_force, List.forall_mem_cons.2 ⟨o_Plan_active_at, List.forall_mem_cons.2 ⟨o_Plan_parts, List.forall_mem_cons.2 ⟨o_Plan___eq__, List.forall_mem_cons.2 ⟨o_check_table, List.forall_mem_cons.2 ⟨o_check_rules, List.forall_mem_cons.2 ⟨o_check_writers, List.forall_mem_cons.2 ⟨o_check_active, List.forall_mem_cons.2 ⟨o__law_bag, List.forall_mem_cons.2 ⟨o__law_draw, List.forall_mem_cons.2 ⟨o__law_one, List.forall_mem_cons.2 ⟨o__law_integer, List.forall_mem_cons.2 ⟨o__law_plain, List.forall_mem_cons.2 ⟨o__law_test, List.forall_mem_nil _⟩⟩⟩⟩⟩⟩⟩⟩⟩⟩⟩⟩⟩⟩⟩⟩⟩⟩⟩⟩⟩⟩⟩⟩
theorem all_2 : ∀ d ∈ ([d__law_kind, d__law_drawn_step, d__law_plan, d__law_columns_in, d__law_mentioned, d__law_after, d__law_stands, d__law_made, d__law_heads, d__law_right, d_law] : List HDef), HDefOk d := List.forall_mem_cons.2 ⟨o__law_kind, List.forall_mem_cons.2 ⟨o__law_drawn_step, List.forall_mem_cons.2 ⟨o__law_plan, List.forall_mem_cons.2 ⟨o__law_columns_in, List.forall_mem_cons.2 ⟨o__law_mentioned, List.forall_mem_cons.2 ⟨o__law_after, List.forall_mem_cons.2 ⟨o__law_stands, List.forall_mem_cons.2 ⟨o__law_made, List.forall_mem_cons.2 ⟨o__law_heads, List.forall_mem_cons.2 ⟨o__law_right, List.forall_mem_cons.2 ⟨o_law, List.forall_mem_nil _⟩⟩⟩⟩⟩⟩⟩⟩⟩⟩⟩
theorem all_d : ∀ d ∈ defs, HDefOk d := List.forall_mem_append.2 ⟨List.forall_mem_append.2 ⟨all_0, all_1⟩, all_2⟩
theorem kk_3 : ∀ d, spec.def? "Plan.active_at" = some d → (d.dfl = [] → d.Kw0 1 ["moment"] [0, 1]) ∧ (d.dfl ≠ [] → d.Kw1 1 ["moment"] [0, 1] []) := by
  intro d h
  have e : spec.def? "Plan.active_at" = some d_Plan_active_at := by rfl
  rw [e] at h
  cases h
  exact ⟨fun _ => k_3, fun h => absurd rfl h⟩
theorem kk_2 : ∀ d, spec.def? "Plan.in_force" = some d → (d.dfl = [] → d.Kw0 1 ["moment"] [0, 1]) ∧ (d.dfl ≠ [] → d.Kw1 1 ["moment"] [0, 1] []) := by
  intro d h
  have e : spec.def? "Plan.in_force" = some d_Plan_in_force := by rfl
  rw [e] at h
  cases h
  exact ⟨fun _ => k_2, fun h => absurd rfl h⟩
theorem kk_1 : ∀ d, spec.def? "Plan.columns" = some d → (d.dfl = [] → d.Kw0 1 ["moment"] [0, 1]) ∧ (d.dfl ≠ [] → d.Kw1 1 ["moment"] [0, 1] []) := by
  intro d h
  have e : spec.def? "Plan.columns" = some d_Plan_columns := by rfl
  rw [e] at h
  cases h
  exact ⟨fun _ => k_1, fun h => absurd rfl h⟩
theorem kk_0 : ∀ d, spec.def? "Plan.__init__" = some d → (d.dfl = [] → d.Kw0 1 ["steps", "active", "writers", "rules", "table"] [0, 5, 4, 3, 2, 1]) ∧ (d.dfl ≠ [] → d.Kw1 1 ["steps", "active", "writers", "rules", "table"] [0, 5, 4, 3, 2, 1] []) := by
  intro d h
  have e : spec.def? "Plan.__init__" = some d_Plan___init__ := by rfl
  rw [e] at h
  cases h
  exact ⟨(fun h => nomatch h), fun _ => k_0⟩
theorem all_k : ∀ p ∈ spec.kw, ∀ d, spec.def? p.1.1 = some d → (d.dfl = [] → d.Kw0 p.1.2.1 p.1.2.2 p.2.1) ∧ (d.dfl ≠ [] → d.Kw1 p.1.2.1 p.1.2.2 p.2.1 p.2.2) := List.forall_mem_cons.2 ⟨kk_0, List.forall_mem_cons.2 ⟨kk_1, List.forall_mem_cons.2 ⟨kk_2, List.forall_mem_cons.2 ⟨kk_3, List.forall_mem_nil _⟩⟩⟩⟩
theorem specOk : HSpecOk spec := ⟨by decide +kernel, all_d, all_k⟩
end Hk01
end
section
set_option maxRecDepth 100000
set_option maxHeartbeats 0
namespace Hk01
open PySem MP L2
abbrev R : PySem.W.OpenRow := PySem.W.OpenLaw.row PySem.Challenge.rw_lookbacks_k01_plans_made
abbrev hk : PySem.W.Hook := hookM 6 spec
def ob (s : PySem.W.SharedT) : AlM := obsM 6 spec (HandSHeadRun.getT s)
theorem ob_eq (s : PySem.W.SharedT) : ob s = hk.obs s.abs := obsM_eq (HandSHeadRun.getT_eq s)
def loose : List PySem.Str := (["_wall", "ShapeError", "InvalidTable", "InvalidRules", "InvalidWriters", "InvalidActive", "InvalidSteps", "InvalidText", "InvalidMoment", "MOST_CONSTANT", "MOST_NAME", "MOST_PLAIN", "MOST_DEEP", "MOST_COLUMNS", "MOST_FIRST", "MOST_RULES", "MOST_WRITERS", "MOST_STEPS", "LETTERS", "SIGNS", "WORDS", "is_integer", "is_between", "is_constant", "is_name", "are_unlike", "integer_in", "value_text", "ORDERS", "is_plain"] : List PySem.Str) ++ (["many_plain", "is_test", "columns_in", "test_text", "plain_in", "parts_in", "parts_in_truths", "told_test", "test_told", "value_told", "pair_told", "pairs_told", "column_told", "kind_told", "named_told", "step_told", "rows_with", "parts_in_reading", "ANY", "are_pairs", "AnyNames", "is_free_test", "is_kind", "mentioned", "pairs_text", "kind_text", "SIZES", "Stand", "is_shaped", "after_rule"] : List PySem.Str) ++ (["after_writer", "after_column", "after", "step_text", "is_pair", "wrong_one", "is_column", "is_rule", "is_writer", "can_begin", "stands_of", "plan_text", "Plan", "check_table", "check_rules", "check_writers", "check_active", "are_parts", "plan_in", "_law_bag", "_law_draw", "_law_one", "_law_integer", "_law_plain", "_law_test", "_law_kind", "_law_drawn_step", "_law_plan", "_law_columns_in", "_law_mentioned"] : List PySem.Str) ++ (["_law_after", "_law_stands", "_law_made", "_law_heads", "_law_right"] : List PySem.Str)
theorem runF (w : World) : HandSHeadRun.RunEq R (PySem.W.view R.prog [104]) hk ob 20000 loose (w.withFollow "special-get-raises" false) := by
  intro os; kernel_rfl
theorem runT (w : World) : HandSHeadRun.RunEq R (PySem.W.view R.prog [104]) hk ob 20000 loose (w.withFollow "special-get-raises" true) := by
  intro os; kernel_rfl
theorem run (w : World) : HandSHeadRun.RunEq R (PySem.W.view R.prog [104]) hk ob 20000 loose w :=
  PySem.W.byRow2 "special-get-raises" (P := fun w => HandSHeadRun.RunEq R (PySem.W.view R.prog [104]) hk ob 20000 loose w) runF runT w
end Hk01
open PySem PySem.W PySem.Calls PyProof.Rows
theorem k01_of (plain : ∀ ns : List Int, ns.length ≤ 63 → (∀ z ∈ ns, Builtin.Int.intBits z ≤ 1048576) → ∃ c, (MP.calls Hk01.spec.P 60).fn "law" [.scr ns] 0 [] = .ok (.bl true) c) : PySem.Challenge.rw_lookbacks_k01_plans_made.Holds := by
  w_on; o_law
  refine HandSHeadRun.head_any (r := OpenLaw.row PySem.Challenge.rw_lookbacks_k01_plans_made) (q := view (OpenLaw.row PySem.Challenge.rw_lookbacks_k01_plans_made).prog [104]) (H := Hk01.hk) (ob := Hk01.ob) (M := 20000) (loose := Hk01.loose) (d := HandSHeadRun.topDef (OpenLaw.row PySem.Challenge.rw_lookbacks_k01_plans_made).prog 104) (kwd := []) Hk01.ob_eq
    (by kernel_rfl) (fun s => by kernel_rfl) Hk01.run (by kernel_rfl) (by kernel_rfl) (by kernel_rfl) (by rfl) (by first | assumption | decide +kernel) (by decide +kernel) ⟨rfl, rfl, rfl, rfl, rfl, by decide +kernel⟩ ?hw ?hc
  case hw => w_witness2
  case hc => exact MP.walk_plain (n := 60) (lim := 63) (dl := Hk01.d_law) (x := "script") rfl (by decide) (by kernel_rfl) Hk01.specOk (by rfl) (by kernel_rfl) rfl rfl ⟨⟨rfl, by decide, by decide⟩, rfl⟩ plain
end
section
set_option maxRecDepth 100000
set_option maxHeartbeats 1000000
namespace MP
open PySem
/-- what a body's end gives -/
def fin : Fl → List Cell → Res D := fun f c => match f with
  | .rt d => .ok d c
  | .nx _ => .ok .non c
  | _ => .bad
def env0 (F : Fun) (ds : List D) : Env := ds.map some ++ List.replicate (F.N.length - ds.length) none
theorem calls_fn {P : Prog} {f : Str} {F : Fun} (h : P.fun? f = some F) (n : Nat) (ds : List D) (b : Nat) (c : List Cell) : (calls P (n + 1)).fn f ds b c = callBy P (calls P n) F ds b c := by
  show (match P.fun? f with
    | some F => callBy P (calls P n) F ds b c
    | none => .bad) = _
  rw [h]
theorem calls_keep {P : Prog} {f : Str} {F : Fun} (h : P.fun? f = some F) {n : Nat} {ds : List D} {b : Nat} {c : List Cell} (hm : F.mode = .keep) (hl : ds.length = F.np) :
    (calls P (n + 1)).fn f ds b c = (evSs P (calls P n) F.body (env0 F ds) b c).bind fin := by
  rw [calls_fn h]
  unfold callBy
  rw [hm]
  show run P (calls P n) F ds b c = _
  unfold run
  rw [if_pos hl]
  rfl
mutual
/-- plain data, at most k deep -/
def lay : Nat → D → Bool
  | _, .non => true
  | _, .bl _ => true
  | _, .int _ => true
  | _, .str s => PyData.canLay0 (.str s)
  | k + 1, .tup xs => layL k xs
  | k + 1, .lst xs => layL k xs
  | _, _ => false
def layL : Nat → List D → Bool
  | _, [] => true
  | k, x :: xs => lay k x && layL k xs
end
mutual
/-- == of plain data -/
def eqD : D → D → Bool
  | .tup xs, .tup ys => eqDs xs ys
  | .lst xs, .lst ys => eqDs xs ys
  | x, y => eqF x y
def eqDs : List D → List D → Bool
  | [], [] => true
  | x :: xs, y :: ys => eqD x y && eqDs xs ys
  | _, _ => false
end
mutual
theorem lay_toP : ∀ (k : Nat) (d : D), lay k d = true → ∃ p, toP d = some p ∧ p.canLay0 = true ∧ p.depth ≤ k
  | k, .non, _ => ⟨.none, rfl, by simp [PyData.canLay0], by simp [PyData.depth]⟩
  | k, .bl b, _ => ⟨.bool b, rfl, by simp [PyData.canLay0], by simp [PyData.depth]⟩
  | k, .int b, _ => ⟨.int b, rfl, by simp [PyData.canLay0], by simp [PyData.depth]⟩
  | k, .str b, h => ⟨.str b, rfl, by simpa only [lay] using h, by simp [PyData.depth]⟩
  | 0, .tup xs, h => by simp [lay] at h
  | 0, .lst xs, h => by simp [lay] at h
  | k + 1, .tup xs, h => by
    obtain ⟨ps, h1, h2, h3⟩ := layL_toP k xs (by simpa [lay] using h)
    exact ⟨.tuple ps, by simp [toP, h1], by simpa [PyData.canLay0] using h2, by simp only [PyData.depth]; omega⟩
  | k + 1, .lst xs, h => by
    obtain ⟨ps, h1, h2, h3⟩ := layL_toP k xs (by simpa [lay] using h)
    exact ⟨.list ps, by simp [toP, h1], by simpa [PyData.canLay0] using h2, by simp only [PyData.depth]; omega⟩
  | k, .dic _, h => by cases k <;> simp [lay] at h
  | k, .ins _ _, h => by cases k <;> simp [lay] at h
  | k, .ref _, h => by cases k <;> simp [lay] at h
  | k, .cls _, h => by cases k <;> simp [lay] at h
  | k, .fn _, h => by cases k <;> simp [lay] at h
  | k, .lam _ _ _ _, h => by cases k <;> simp [lay] at h
  | k, .scr _, h => by cases k <;> simp [lay] at h
theorem layL_toP : ∀ (k : Nat) (ds : List D), layL k ds = true → ∃ ps, toPs ds = some ps ∧ PyData.canLayAll0 ps = true ∧ PyData.depthAll ps ≤ k
  | k, [], _ => ⟨[], rfl, by simp [PyData.canLayAll0], by simp [PyData.depthAll]⟩
  | k, x :: xs, h => by
    obtain ⟨h1, h2⟩ := Bool.and_eq_true_iff.mp (show (lay k x && layL k xs) = true by simpa [layL] using h)
    obtain ⟨p, q1, q2, q3⟩ := lay_toP k x h1
    obtain ⟨ps, q4, q5, q6⟩ := layL_toP k xs h2
    exact ⟨p :: ps, by simp [toPs, q1, q4], by simp [PyData.canLayAll0, q2, q5], by simp only [PyData.depthAll]; omega⟩
end
mutual
theorem eqv_eqD : ∀ (x y : D) (p q : PyData), toP x = some p → toP y = some q → PyData.eqv p q = eqD x y
  | .tup xs, y, p, q, hx, hy => by
    obtain ⟨ps, h1, rfl⟩ := Option.map_eq_some_iff.mp (show (toPs xs).map .tuple = some p by simpa [toP] using hx)
    cases y with
    | tup ys =>
      obtain ⟨qs, h2, rfl⟩ := Option.map_eq_some_iff.mp (show (toPs ys).map .tuple = some q by simpa [toP] using hy)
      simpa [PyData.eqv, eqD] using eqv_eqDs xs ys ps qs h1 h2
    | lst ys =>
      obtain ⟨qs, h2, rfl⟩ := Option.map_eq_some_iff.mp (show (toPs ys).map .list = some q by simpa [toP] using hy)
      simp [PyData.eqv, eqD, eqF]
    | non => cases hy; simp [PyData.eqv, eqD, eqF]
    | bl b => cases hy; simp [PyData.eqv, eqD, eqF]
    | int b => cases hy; simp [PyData.eqv, eqD, eqF]
    | str b => cases hy; simp [PyData.eqv, eqD, eqF]
    | _ => simp [toP] at hy
  | .lst xs, y, p, q, hx, hy => by
    obtain ⟨ps, h1, rfl⟩ := Option.map_eq_some_iff.mp (show (toPs xs).map .list = some p by simpa [toP] using hx)
    cases y with
    | lst ys =>
      obtain ⟨qs, h2, rfl⟩ := Option.map_eq_some_iff.mp (show (toPs ys).map .list = some q by simpa [toP] using hy)
      simpa [PyData.eqv, eqD] using eqv_eqDs xs ys ps qs h1 h2
    | tup ys =>
      obtain ⟨qs, h2, rfl⟩ := Option.map_eq_some_iff.mp (show (toPs ys).map .tuple = some q by simpa [toP] using hy)
      simp [PyData.eqv, eqD, eqF]
    | non => cases hy; simp [PyData.eqv, eqD, eqF]
    | bl b => cases hy; simp [PyData.eqv, eqD, eqF]
    | int b => cases hy; simp [PyData.eqv, eqD, eqF]
    | str b => cases hy; simp [PyData.eqv, eqD, eqF]
    | _ => simp [toP] at hy
  | .non, y, p, q, hx, hy => by
    cases hx
    cases y <;> first | (cases hy; simp [PyData.eqv, eqD, eqF]; done) | (simp only [toP, Option.map_eq_some_iff] at hy; obtain ⟨qs, h2, rfl⟩ := hy; simp [PyData.eqv, eqD, eqF]; done) | (simp [toP] at hy; done)
  | .bl _, y, p, q, hx, hy => by
    cases hx
    cases y <;> first | (cases hy; simp [PyData.eqv, eqD, eqF]; done) | (simp only [toP, Option.map_eq_some_iff] at hy; obtain ⟨qs, h2, rfl⟩ := hy; simp [PyData.eqv, eqD, eqF]; done) | (simp [toP] at hy; done)
  | .int _, y, p, q, hx, hy => by
    cases hx
    cases y <;> first | (cases hy; simp [PyData.eqv, eqD, eqF]; done) | (simp only [toP, Option.map_eq_some_iff] at hy; obtain ⟨qs, h2, rfl⟩ := hy; simp [PyData.eqv, eqD, eqF]; done) | (simp [toP] at hy; done)
  | .str _, y, p, q, hx, hy => by
    cases hx
    cases y <;> first | (cases hy; simp [PyData.eqv, eqD, eqF]; done) | (simp only [toP, Option.map_eq_some_iff] at hy; obtain ⟨qs, h2, rfl⟩ := hy; simp [PyData.eqv, eqD, eqF]; done) | (simp [toP] at hy; done)
  | .dic _, _, _, _, hx, _ => by simp [toP] at hx
  | .ins _ _, _, _, _, hx, _ => by simp [toP] at hx
  | .ref _, _, _, _, hx, _ => by simp [toP] at hx
  | .cls _, _, _, _, hx, _ => by simp [toP] at hx
  | .fn _, _, _, _, hx, _ => by simp [toP] at hx
  | .lam _ _ _ _, _, _, _, hx, _ => by simp [toP] at hx
  | .scr _, _, _, _, hx, _ => by simp [toP] at hx
theorem eqv_eqDs : ∀ (xs ys : List D) (ps qs : List PyData), toPs xs = some ps → toPs ys = some qs → PyData.eqvAll ps qs = eqDs xs ys
  | [], [], ps, qs, hx, hy => by cases hx; cases hy; simp [PyData.eqvAll, eqDs]
  | [], y :: ys, ps, qs, hx, hy => by
    cases hx
    simp only [toPs] at hy
    split at hy
    · cases hy; simp [PyData.eqvAll, eqDs]
    · cases hy
  | x :: xs, [], ps, qs, hx, hy => by
    cases hy
    simp only [toPs] at hx
    split at hx
    · cases hx; simp [PyData.eqvAll, eqDs]
    · cases hx
  | x :: xs, y :: ys, ps, qs, hx, hy => by
    simp only [toPs] at hx hy
    split at hx
    · split at hy
      · rename_i _ _ h1 h2 _ _ _ _ h3 h4
        cases hx; cases hy
        simp [PyData.eqvAll, eqDs, eqv_eqD x y _ _ h1 h3, eqv_eqDs xs ys _ _ h2 h4]
      · cases hy
    · cases hx
end
theorem deref_lay {k : Nat} {d : D} (h : lay k d = true) (b : Nat) (c : List Cell) : deref b c d = d := by
  cases d <;> first | rfl | (cases k <;> simp [lay] at h)
theorem eqSem_lay {k m : Nat} {x y : D} (hx : lay k x = true) (hy : lay m y = true) (hk : k ≤ 64 := by omega) (hm : m ≤ 64 := by omega) (b : Nat) (c : List Cell) : eqSem b c x y = some (eqD x y) := by
  obtain ⟨p, h1, h2, h3⟩ := lay_toP _ _ hx
  obtain ⟨q, h4, h5, h6⟩ := lay_toP _ _ hy
  unfold eqSem
  rw [deref_lay hx, deref_lay hy, h1, h4]
  have e1 : SeqAt.shaped p = true := by unfold SeqAt.shaped; rw [h2]; simp; omega
  have e2 : SeqAt.shaped q = true := by unfold SeqAt.shaped; rw [h5]; simp; omega
  show (if (SeqAt.shaped p && SeqAt.shaped q) = true then some (PyData.eqv p q) else none) = _
  rw [e1, e2, eqv_eqD x y p q h1 h4]
  rfl
end MP
end
section
set_option maxRecDepth 100000
set_option maxHeartbeats 1000000
namespace MP
open PySem
theorem map_inj' {α β : Type} {f : α → β} (hf : ∀ x y, f x = f y → x = y) : ∀ {xs ys : List α}, xs.map f = ys.map f → xs = ys
  | [], [], _ => rfl
  | [], _ :: _, h => by simp at h
  | _ :: _, [], h => by simp at h
  | x :: xs, y :: ys, h => by
    simp only [List.map_cons, List.cons.injEq] at h
    rw [hf x y h.1, map_inj' hf h.2]
theorem strEq (a b : String) : (Str.ofString a = Str.ofString b) = (a = b) := by
  refine propext ⟨fun h => ?_, fun h => by rw [h]⟩
  rw [Str.ofString_eq_toList, Str.ofString_eq_toList] at h
  injection h with h
  have h2 : a.toList.map Char.toNat = b.toList.map Char.toNat := by simpa using h
  have h3 : a.toList = b.toList := map_inj' (fun x y q => Char.toNat_inj.mp q) h2
  exact String.toList_inj.mp h3
theorem canLit (a : String) : PyData.canLay0 (PyData.str (Str.ofString a)) = true := by
  simp only [PyData.canLay0, PyData.strOk, Str.ofString_eq_toList]
  simp [List.all_map]
  intro c hc
  have h := c.valid
  rcases h with h | h
  · have : c.toNat < 0xd800 := h
    omega
  · have : c.toNat < 0x110000 := h.2
    omega
/-- a thing that is not read -/
inductive Fix {α : Type} (a : α) : Type
  | mk
theorem bind_left {α β : Type} {r r' : Res α} (k : α → List Cell → Res β) (h : r = r') : r.bind k = r'.bind k := by rw [h]
section
variable {α β : Type}
/-- bind, of which the first part alone is read -/
def Bnd (r : Res α) (k : α → List Cell → Res β) (_ : Fix k) : Res β := r.bind k
theorem bindS (r : Res α) (k : α → List Cell → Res β) : r.bind k = Bnd r k .mk := Eq.trans (Eq.refl _) (Eq.refl _)
theorem bnd_ok (a : α) (c : List Cell) (k : α → List Cell → Res β) (t : Fix k) : Bnd (.ok a c) k t = k a c := Eq.trans (Eq.refl _) (Eq.refl _)
theorem bnd_bad (k : α → List Cell → Res β) (t : Fix k) : Bnd .bad k t = .bad := Eq.trans (Eq.refl _) (Eq.refl _)
end
section
variable (step : D → MP.Env → Nat → List Cell → Res Fl) (b : Nat) (x : D) (xs : List D) (γ : MP.Env) (c : List Cell)
def ForL (_ : Fix (step, b, c)) : Res Fl := forL step b xs γ c
theorem forS1 : forL step b xs γ c = ForL step b xs γ c .mk := Eq.trans (Eq.refl _) (Eq.refl _)
theorem forS_n (t : Fix (step, b, c)) : ForL step b [] γ c t = .ok (.nx γ) c := Eq.trans (Eq.refl _) (Eq.refl _)
theorem forS_c (t : Fix (step, b, c)) : ForL step b (x :: xs) γ c t = (step x γ b c).bind fun f c => match f with
    | .nx γ => forL step b xs γ c
    | .ct γ => forL step b xs γ c
    | .bk γ => .ok (.nx γ) c
    | .rt d => .ok (.rt d) c := Eq.trans (Eq.refl _) (Eq.refl _)
def ForW (w : Wk) (_ : Fix (step, b, γ, c)) : Res Fl := forW step b w γ c
theorem forW1 (w : Wk) : forW step b w γ c = ForW step b γ c w .mk := Eq.trans (Eq.refl _) (Eq.refl _)
theorem forW_x (t : Fix (step, b, γ, c)) : ForW step b γ c (.xs xs) t = forL step b xs γ c := Eq.trans (Eq.refl _) (Eq.refl _)
end
section
variable (step : D → Nat → List Cell → Res (Option D)) (b : Nat) (x : D) (xs acc : List D) (c : List Cell)
def CompL (_ : Fix (step, b, c)) : Res (List D) := compL step b xs acc c
theorem compS1 : compL step b xs acc c = CompL step b xs acc c .mk := Eq.trans (Eq.refl _) (Eq.refl _)
theorem compS_n (t : Fix (step, b, c)) : CompL step b [] acc c t = .ok acc c := Eq.trans (Eq.refl _) (Eq.refl _)
theorem compS_c (t : Fix (step, b, c)) : CompL step b (x :: xs) acc c t = (step x b c).bind fun o c => match o with
    | some y => if acc.length < sizeLine then compL step b xs (acc ++ [y]) c else .bad
    | none => compL step b xs acc c := Eq.trans (Eq.refl _) (Eq.refl _)
def CompW (w : Wk) (_ : Fix (step, b, acc, c)) : Res (List D) := compW step b w acc c
theorem compW1 (w : Wk) : compW step b w acc c = CompW step b acc c w .mk := Eq.trans (Eq.refl _) (Eq.refl _)
theorem compW_x (t : Fix (step, b, acc, c)) : CompW step b acc c (.xs xs) t = compL step b xs acc c := Eq.trans (Eq.refl _) (Eq.refl _)
end
section
variable (step : D → List D → Nat → List Cell → Res (List D)) (b : Nat) (x : D) (xs acc : List D) (c : List Cell)
def FoldL (_ : Fix (step, b, c)) : Res (List D) := foldL step b xs acc c
theorem foldS1 : foldL step b xs acc c = FoldL step b xs acc c .mk := Eq.trans (Eq.refl _) (Eq.refl _)
theorem foldS_n (t : Fix (step, b, c)) : FoldL step b [] acc c t = .ok acc c := Eq.trans (Eq.refl _) (Eq.refl _)
theorem foldS_c (t : Fix (step, b, c)) : FoldL step b (x :: xs) acc c t = (step x acc b c).bind fun acc c => foldL step b xs acc c := Eq.trans (Eq.refl _) (Eq.refl _)
end
theorem str_beq (a b : Str) : (a == b) = decide (a = b) := by
  by_cases h : a = b
  · subst h; simp
  · rw [decide_eq_false h]; exact beq_eq_false_iff_ne.mpr h
theorem strTest : (("abc" : Str) = ("abd" : Str)) = False := by simp only [strEq, String.reduceEq]
theorem compL_map {step : D → Nat → List Cell → Res (Option D)} {b : Nat} {c : List Cell} {f : D → D} : ∀ {xs acc : List D}, (∀ x ∈ xs, step x b c = .ok (some (f x)) c) → acc.length + xs.length ≤ sizeLine → compL step b xs acc c = .ok (acc ++ xs.map f) c
  | [], acc, _, _ => by simp [compL]
  | x :: xs, acc, h, hl => by
    have hl2 : acc.length + (xs.length + 1) ≤ sizeLine := hl
    have e : acc.length < sizeLine := by omega
    rw [compL, h x (List.mem_cons_self ..), Res.bind_ok]
    dsimp only
    rw [if_pos e, compL_map (xs := xs) (fun y hy => h y (List.mem_cons_of_mem _ hy)) (by rw [List.length_append]; simp; omega)]
    simp
theorem compL_filter {step : D → Nat → List Cell → Res (Option D)} {b : Nat} {c : List Cell} {f : D → Option D} : ∀ {xs acc : List D}, (∀ x ∈ xs, step x b c = .ok (f x) c) → acc.length + xs.length ≤ sizeLine → compL step b xs acc c = .ok (acc ++ xs.filterMap f) c
  | [], acc, _, _ => by simp [compL]
  | x :: xs, acc, h, hl => by
    have hl2 : acc.length + (xs.length + 1) ≤ sizeLine := hl
    have e : acc.length < sizeLine := by omega
    rw [compL, h x (List.mem_cons_self ..), Res.bind_ok]
    cases hf : f x with
    | none =>
      dsimp only
      rw [compL_filter (xs := xs) (fun y hy => h y (List.mem_cons_of_mem _ hy)) (by omega), List.filterMap_cons, hf]
    | some y =>
      dsimp only
      rw [if_pos e, compL_filter (xs := xs) (fun y hy => h y (List.mem_cons_of_mem _ hy)) (by rw [List.length_append]; simp; omega), List.filterMap_cons, hf]
      simp
/-- a comprehension over mapped data -/
theorem compL_mapT {α : Type} {step : D → Nat → List Cell → Res (Option D)} {b : Nat} {c : List Cell} {e : α → D} {f : α → D} {xs : List α} {acc : List D} (h : ∀ x ∈ xs, step (e x) b c = .ok (some (f x)) c) (hl : acc.length + xs.length ≤ sizeLine) :
    compL step b (xs.map e) acc c = .ok (acc ++ xs.map f) c := by
  induction xs generalizing acc with
  | nil => simp [compL]
  | cons x xs ih =>
    have hl2 : acc.length + (xs.length + 1) ≤ sizeLine := hl
    rw [List.map_cons, compL, h x (List.mem_cons_self ..), Res.bind_ok]
    dsimp only
    rw [if_pos (by omega), ih (fun y hy => h y (List.mem_cons_of_mem _ hy)) (by rw [List.length_append]; simp; omega)]
    simp
theorem compL_filT {α : Type} {step : D → Nat → List Cell → Res (Option D)} {b : Nat} {c : List Cell} {e : α → D} {f : α → Option D} {xs : List α} {acc : List D} (h : ∀ x ∈ xs, step (e x) b c = .ok (f x) c) (hl : acc.length + xs.length ≤ sizeLine) :
    compL step b (xs.map e) acc c = .ok (acc ++ xs.filterMap f) c := by
  induction xs generalizing acc with
  | nil => simp [compL]
  | cons x xs ih =>
    have hl2 : acc.length + (xs.length + 1) ≤ sizeLine := hl
    rw [List.map_cons, compL, h x (List.mem_cons_self ..), Res.bind_ok]
    cases hf : f x with
    | none =>
      dsimp only
      rw [ih (fun y hy => h y (List.mem_cons_of_mem _ hy)) (by omega), List.filterMap_cons, hf]
    | some y =>
      dsimp only
      rw [if_pos (by omega), ih (fun y hy => h y (List.mem_cons_of_mem _ hy)) (by rw [List.length_append]; simp; omega), List.filterMap_cons, hf]
      simp
theorem foldL_app {step : D → List D → Nat → List Cell → Res (List D)} {b : Nat} {c : List Cell} {α : Type} {e : α → D} {f : α → List D} {xs : List α} {acc : List D} (h : ∀ x ∈ xs, ∀ acc, acc.length + (f x).length ≤ sizeLine → step (e x) acc b c = .ok (acc ++ f x) c)
    (hl : acc.length + (xs.flatMap f).length ≤ sizeLine) : foldL step b (xs.map e) acc c = .ok (acc ++ xs.flatMap f) c := by
  induction xs generalizing acc with
  | nil => simp [foldL]
  | cons x xs ih =>
    rw [List.flatMap_cons, List.length_append] at hl
    rw [List.map_cons, foldL, h x (List.mem_cons_self ..) _ (by omega), Res.bind_ok, ih (fun y hy => h y (List.mem_cons_of_mem _ hy)) (by rw [List.length_append]; omega), List.flatMap_cons, List.append_assoc]
theorem ix_tup (b : Nat) (c : List Cell) (xs : List D) (i : Int) : ixSem b c (.tup xs) (.int i) = L2.atI xs i := rfl
theorem ix_lst (b : Nat) (c : List Cell) (xs : List D) (i : Int) : ixSem b c (.lst xs) (.int i) = L2.atI xs i := rfl
@[simp] theorem atI_0 {α : Type} (x : α) (xs : List α) : L2.atI (x :: xs) 0 = some x := by
  unfold L2.atI L2.ixN
  rw [if_pos (by decide), if_pos (by simp only [List.length_cons]; omega)]
  rfl
@[simp] theorem atI_1 {α : Type} (x y : α) (xs : List α) : L2.atI (x :: y :: xs) 1 = some y := by
  unfold L2.atI L2.ixN
  rw [if_pos (by decide), if_pos (by simp only [List.length_cons]; omega)]
  rfl
@[simp] theorem atI_2 {α : Type} (x y z : α) (xs : List α) : L2.atI (x :: y :: z :: xs) 2 = some z := by
  unfold L2.atI L2.ixN
  rw [if_pos (by decide), if_pos (by simp only [List.length_cons]; omega)]
  rfl
@[simp] theorem atI_3 {α : Type} (x y z w : α) (xs : List α) : L2.atI (x :: y :: z :: w :: xs) 3 = some w := by
  unfold L2.atI L2.ixN
  rw [if_pos (by decide), if_pos (by simp only [List.length_cons]; omega)]
  rfl
@[simp] theorem atI_4 {α : Type} (x y z w v : α) (xs : List α) : L2.atI (x :: y :: z :: w :: v :: xs) 4 = some v := by
  unfold L2.atI L2.ixN
  rw [if_pos (by decide), if_pos (by simp only [List.length_cons]; omega)]
  rfl
theorem sl_from {α : Type} (xs : List α) (k : Nat) : cutD xs (some (k : Int)) none = xs.drop k := by
  unfold cutD
  rw [HT.sIx_nat, HT.sIx_none]
  by_cases h : k ≤ xs.length
  · rw [Nat.min_eq_left h, List.take_of_length_le (by simp)]
  · rw [Nat.min_eq_right (by omega), List.drop_of_length_le (Nat.le_refl _), List.drop_of_length_le (by omega), List.take_nil]
theorem sl_to {α : Type} (xs : List α) (k : Nat) : cutD xs none (some (k : Int)) = xs.take k := by
  unfold cutD
  rw [HT.sIx_nat, HT.sIx_none]
  by_cases h : k ≤ xs.length
  · rw [Nat.min_eq_left h]; simp
  · rw [Nat.min_eq_right (by omega), List.take_of_length_le (by simp), List.take_of_length_le (by omega)]; simp
@[simp] theorem sl1 {α : Type} (xs : List α) : cutD xs (some 1) none = xs.drop 1 := sl_from xs 1
@[simp] theorem sl2 {α : Type} (xs : List α) : cutD xs (some 2) none = xs.drop 2 := sl_from xs 2
section
variable {P : Prog} {call : Call} {b : Nat} {c : List Cell} {x y : D}
theorem il_non  : isLam .non = false := rfl
theorem il_bl (k : Bool) : isLam (.bl k) = false := rfl
theorem il_int (k : Int) : isLam (.int k) = false := rfl
theorem il_str (k : Str) : isLam (.str k) = false := rfl
theorem il_tup (k : List D) : isLam (.tup k) = false := rfl
theorem il_lst (k : List D) : isLam (.lst k) = false := rfl
theorem il_dic (k : List (D × D)) : isLam (.dic k) = false := rfl
theorem il_scr (k : List Int) : isLam (.scr k) = false := rfl
theorem il_ins (k : Str) (fs : List (Str × D)) : isLam (.ins k fs) = false := rfl
theorem il_ref (k : Nat) : isLam (.ref k) = false := rfl
theorem il_fn (k : Str) : isLam (.fn k) = false := rfl
theorem cx_Eq_non  : cmpX P call .Eq .non y b c = ofOpt ((cmpSem .Eq b c .non y).map .bl) c := rfl
theorem cx_Eq_bl (k : Bool) : cmpX P call .Eq (.bl k) y b c = ofOpt ((cmpSem .Eq b c (.bl k) y).map .bl) c := rfl
theorem cx_Eq_int (k : Int) : cmpX P call .Eq (.int k) y b c = ofOpt ((cmpSem .Eq b c (.int k) y).map .bl) c := rfl
theorem cx_Eq_str (k : Str) : cmpX P call .Eq (.str k) y b c = ofOpt ((cmpSem .Eq b c (.str k) y).map .bl) c := rfl
theorem cx_Eq_tup (k : List D) : cmpX P call .Eq (.tup k) y b c = ofOpt ((cmpSem .Eq b c (.tup k) y).map .bl) c := rfl
theorem cx_Eq_lst (k : List D) : cmpX P call .Eq (.lst k) y b c = ofOpt ((cmpSem .Eq b c (.lst k) y).map .bl) c := rfl
theorem cx_Eq_dic (k : List (D × D)) : cmpX P call .Eq (.dic k) y b c = ofOpt ((cmpSem .Eq b c (.dic k) y).map .bl) c := rfl
theorem cx_Eq_scr (k : List Int) : cmpX P call .Eq (.scr k) y b c = ofOpt ((cmpSem .Eq b c (.scr k) y).map .bl) c := rfl
theorem cx_NotEq_non  : cmpX P call .NotEq .non y b c = ofOpt ((cmpSem .NotEq b c .non y).map .bl) c := rfl
theorem cx_NotEq_bl (k : Bool) : cmpX P call .NotEq (.bl k) y b c = ofOpt ((cmpSem .NotEq b c (.bl k) y).map .bl) c := rfl
theorem cx_NotEq_int (k : Int) : cmpX P call .NotEq (.int k) y b c = ofOpt ((cmpSem .NotEq b c (.int k) y).map .bl) c := rfl
theorem cx_NotEq_str (k : Str) : cmpX P call .NotEq (.str k) y b c = ofOpt ((cmpSem .NotEq b c (.str k) y).map .bl) c := rfl
theorem cx_NotEq_tup (k : List D) : cmpX P call .NotEq (.tup k) y b c = ofOpt ((cmpSem .NotEq b c (.tup k) y).map .bl) c := rfl
theorem cx_NotEq_lst (k : List D) : cmpX P call .NotEq (.lst k) y b c = ofOpt ((cmpSem .NotEq b c (.lst k) y).map .bl) c := rfl
theorem cx_NotEq_dic (k : List (D × D)) : cmpX P call .NotEq (.dic k) y b c = ofOpt ((cmpSem .NotEq b c (.dic k) y).map .bl) c := rfl
theorem cx_NotEq_scr (k : List Int) : cmpX P call .NotEq (.scr k) y b c = ofOpt ((cmpSem .NotEq b c (.scr k) y).map .bl) c := rfl
theorem cx_Lt  : cmpX P call .Lt x y b c = ofOpt ((cmpSem .Lt b c x y).map .bl) c := rfl
theorem cx_LtE  : cmpX P call .LtE x y b c = ofOpt ((cmpSem .LtE b c x y).map .bl) c := rfl
theorem cx_Gt  : cmpX P call .Gt x y b c = ofOpt ((cmpSem .Gt b c x y).map .bl) c := rfl
theorem cx_GtE  : cmpX P call .GtE x y b c = ofOpt ((cmpSem .GtE b c x y).map .bl) c := rfl
theorem cx_Is  : cmpX P call .Is x y b c = ofOpt ((cmpSem .Is b c x y).map .bl) c := rfl
theorem cx_IsNot  : cmpX P call .IsNot x y b c = ofOpt ((cmpSem .IsNot b c x y).map .bl) c := rfl
theorem cx_In_non  : cmpX P call .In x .non b c = ofOpt ((cmpSem .In b c x .non).map .bl) c := rfl
theorem cx_In_bl (k : Bool) : cmpX P call .In x (.bl k) b c = ofOpt ((cmpSem .In b c x (.bl k)).map .bl) c := rfl
theorem cx_In_int (k : Int) : cmpX P call .In x (.int k) b c = ofOpt ((cmpSem .In b c x (.int k)).map .bl) c := rfl
theorem cx_In_str (k : Str) : cmpX P call .In x (.str k) b c = ofOpt ((cmpSem .In b c x (.str k)).map .bl) c := rfl
theorem cx_In_tup (k : List D) : cmpX P call .In x (.tup k) b c = ofOpt ((cmpSem .In b c x (.tup k)).map .bl) c := rfl
theorem cx_In_lst (k : List D) : cmpX P call .In x (.lst k) b c = ofOpt ((cmpSem .In b c x (.lst k)).map .bl) c := rfl
theorem cx_In_dic (k : List (D × D)) : cmpX P call .In x (.dic k) b c = ofOpt ((cmpSem .In b c x (.dic k)).map .bl) c := rfl
theorem cx_In_scr (k : List Int) : cmpX P call .In x (.scr k) b c = ofOpt ((cmpSem .In b c x (.scr k)).map .bl) c := rfl
theorem cx_NotIn_non  : cmpX P call .NotIn x .non b c = ofOpt ((cmpSem .NotIn b c x .non).map .bl) c := rfl
theorem cx_NotIn_bl (k : Bool) : cmpX P call .NotIn x (.bl k) b c = ofOpt ((cmpSem .NotIn b c x (.bl k)).map .bl) c := rfl
theorem cx_NotIn_int (k : Int) : cmpX P call .NotIn x (.int k) b c = ofOpt ((cmpSem .NotIn b c x (.int k)).map .bl) c := rfl
theorem cx_NotIn_str (k : Str) : cmpX P call .NotIn x (.str k) b c = ofOpt ((cmpSem .NotIn b c x (.str k)).map .bl) c := rfl
theorem cx_NotIn_tup (k : List D) : cmpX P call .NotIn x (.tup k) b c = ofOpt ((cmpSem .NotIn b c x (.tup k)).map .bl) c := rfl
theorem cx_NotIn_lst (k : List D) : cmpX P call .NotIn x (.lst k) b c = ofOpt ((cmpSem .NotIn b c x (.lst k)).map .bl) c := rfl
theorem cx_NotIn_dic (k : List (D × D)) : cmpX P call .NotIn x (.dic k) b c = ofOpt ((cmpSem .NotIn b c x (.dic k)).map .bl) c := rfl
theorem cx_NotIn_scr (k : List Int) : cmpX P call .NotIn x (.scr k) b c = ofOpt ((cmpSem .NotIn b c x (.scr k)).map .bl) c := rfl
theorem cs_Eq  : cmpSem .Eq b c x y = eqSem b c x y := rfl
theorem cs_NotEq  : cmpSem .NotEq b c x y = (eqSem b c x y).map (!·) := rfl
theorem cs_Lt (i j : Int) : cmpSem .Lt b c (.int i) (.int j) = some (decide (i < j)) := rfl
theorem cs_LtE (i j : Int) : cmpSem .LtE b c (.int i) (.int j) = some (decide (i ≤ j)) := rfl
theorem cs_Gt (i j : Int) : cmpSem .Gt b c (.int i) (.int j) = some (decide (j < i)) := rfl
theorem cs_GtE (i j : Int) : cmpSem .GtE b c (.int i) (.int j) = some (decide (j ≤ i)) := rfl
theorem cs_Is  : cmpSem .Is b c x .non = some (isNon x) := rfl
theorem cs_IsNot  : cmpSem .IsNot b c x .non = some (!isNon x) := rfl
theorem cs_In  : cmpSem .In b c x y = inSem b c x y := rfl
theorem cs_NotIn  : cmpSem .NotIn b c x y = (inSem b c x y).map (!·) := rfl
theorem nn_non  : isNon .non = true := rfl
theorem nn_bl (k : Bool) : isNon (.bl k) = false := rfl
theorem nn_int (k : Int) : isNon (.int k) = false := rfl
theorem nn_str (k : Str) : isNon (.str k) = false := rfl
theorem nn_tup (k : List D) : isNon (.tup k) = false := rfl
theorem nn_lst (k : List D) : isNon (.lst k) = false := rfl
theorem nn_dic (k : List (D × D)) : isNon (.dic k) = false := rfl
theorem nn_scr (k : List Int) : isNon (.scr k) = false := rfl
theorem nn_ins (k : Str) (fs : List (Str × D)) : isNon (.ins k fs) = false := rfl
theorem in_tup (k : List D) : inSem b c x (.tup k) = if flat x && k.all flat then some (k.any fun z => eqF z x) else none := rfl
theorem in_lst (k : List D) : inSem b c x (.lst k) = if flat x && k.all flat then some (k.any fun z => eqF z x) else none := rfl
theorem in_dic (k : List (D × D)) : inSem b c x (.dic k) = (match keyOf x, keysOf k with | some k, some kvs => some (look kvs k).isSome | _, _ => none) := rfl
theorem fl_non  : flat .non = true := rfl
theorem fl_bl (k : Bool) : flat (.bl k) = true := rfl
theorem fl_int (k : Int) : flat (.int k) = true := rfl
theorem fl_str (k : Str) : flat (.str k) = true := rfl
theorem ef_nn  : eqF .non .non = true := rfl
theorem ef_ii (i j : Int) : eqF (.int i) (.int j) = (i == j) := rfl
theorem ef_ss (i j : Str) : eqF (.str i) (.str j) = decide (i = j) := str_beq i j
theorem ef_in (i : Int) : eqF (.int i) .non = false := rfl
theorem ef_sn (i : Str) : eqF (.str i) .non = false := rfl
theorem ef_ni (i : Int) : eqF .non (.int i) = false := rfl
theorem ef_ns (i : Str) : eqF .non (.str i) = false := rfl
theorem ef_is (i : Int) (j : Str) : eqF (.int i) (.str j) = false := rfl
theorem ef_si (i : Str) (j : Int) : eqF (.str i) (.int j) = false := rfl
theorem bx_len_tup (k : List D) : bltX P call .len [(.tup k)] b c = ofOpt (bltSem .len [(.tup k)] b c) c := rfl
theorem bx_len_lst (k : List D) : bltX P call .len [(.lst k)] b c = ofOpt (bltSem .len [(.lst k)] b c) c := rfl
theorem bx_len_dic (k : List (D × D)) : bltX P call .len [(.dic k)] b c = ofOpt (bltSem .len [(.dic k)] b c) c := rfl
theorem bx_len_scr (k : List Int) : bltX P call .len [(.scr k)] b c = ofOpt (bltSem .len [(.scr k)] b c) c := rfl
theorem bx_len_str (k : Str) : bltX P call .len [(.str k)] b c = ofOpt (bltSem .len [(.str k)] b c) c := rfl
theorem bx_tuple (ds : List D) : bltX P call .tuple ds b c = ofOpt (bltSem .tuple ds b c) c := rfl
theorem bx_list (ds : List D) : bltX P call .list ds b c = ofOpt (bltSem .list ds b c) c := rfl
theorem bx_dict (ds : List D) : bltX P call .dict ds b c = ofOpt (bltSem .dict ds b c) c := rfl
theorem bx_int (ds : List D) : bltX P call .int ds b c = ofOpt (bltSem .int ds b c) c := rfl
theorem bx_str (ds : List D) : bltX P call .str ds b c = ofOpt (bltSem .str ds b c) c := rfl
theorem bx_abs (ds : List D) : bltX P call .abs ds b c = ofOpt (bltSem .abs ds b c) c := rfl
theorem bx_max (ds : List D) : bltX P call .max ds b c = ofOpt (bltSem .max ds b c) c := rfl
theorem bx_min (ds : List D) : bltX P call .min ds b c = ofOpt (bltSem .min ds b c) c := rfl
theorem bx_sum (ds : List D) : bltX P call .sum ds b c = ofOpt (bltSem .sum ds b c) c := rfl
theorem bx_all (ds : List D) : bltX P call .all ds b c = ofOpt (bltSem .all ds b c) c := rfl
theorem bx_any (ds : List D) : bltX P call .any ds b c = ofOpt (bltSem .any ds b c) c := rfl
theorem bx_repr (ds : List D) : bltX P call .repr ds b c = ofOpt (bltSem .repr ds b c) c := rfl
theorem bs_len_tup (k : List D) : bltSem .len [.tup k] b c = some (.int k.length) := rfl
theorem bs_len_lst (k : List D) : bltSem .len [.lst k] b c = some (.int k.length) := rfl
theorem bs_len_scr (k : List Int) : bltSem .len [.scr k] b c = some (.int k.length) := by simp [bltSem, lenSem, seqOf]
theorem bs_len_dic (k : List (D × D)) : bltSem .len [.dic k] b c = some (.int k.length) := rfl
theorem bs_tuple_lst (k : List D) : bltSem .tuple [.lst k] b c = some (.tup k) := rfl
theorem bs_tuple_tup (k : List D) : bltSem .tuple [.tup k] b c = some (.tup k) := rfl
theorem bs_list_tup (k : List D) : bltSem .list [.tup k] b c = some (.lst k) := rfl
theorem bs_list_lst (k : List D) : bltSem .list [.lst k] b c = some (.lst k) := rfl
theorem bs_sum (k : List D) : bltSem .sum [.lst k] b c = (intsOf k).map fun ns => .int ns.sum := by simp [bltSem, sumSem, lstOf, seqOf]
theorem bs_all (k : List D) : bltSem .all [.lst k] b c = (boolsOf k).map fun bs => .bl (bs.all id) := by simp [bltSem, allSem, lstOf, seqOf]
theorem ty_non_int  : isTy P b c .non (.blt "int") = some false := by first | rfl | (show L2.kitB "NoneType" "int" = _; decide +kernel)
theorem ty_non_bool  : isTy P b c .non (.blt "bool") = some false := by first | rfl | (show L2.kitB "NoneType" "bool" = _; decide +kernel)
theorem ty_non_str  : isTy P b c .non (.blt "str") = some false := by first | rfl | (show L2.kitB "NoneType" "str" = _; decide +kernel)
theorem ty_non_tuple  : isTy P b c .non (.blt "tuple") = some false := by first | rfl | (show L2.kitB "NoneType" "tuple" = _; decide +kernel)
theorem ty_non_list  : isTy P b c .non (.blt "list") = some false := by first | rfl | (show L2.kitB "NoneType" "list" = _; decide +kernel)
theorem ty_non_dict  : isTy P b c .non (.blt "dict") = some false := by first | rfl | (show L2.kitB "NoneType" "dict" = _; decide +kernel)
theorem ty_non_own  (z : Str) : isTy P b c .non (.own z) = some false := rfl
theorem ty_bl_int (k : Bool) : isTy P b c (.bl k) (.blt "int") = some true := by first | rfl | (show L2.kitB "bool" "int" = _; decide +kernel)
theorem ty_bl_bool (k : Bool) : isTy P b c (.bl k) (.blt "bool") = some true := by first | rfl | (show L2.kitB "bool" "bool" = _; decide +kernel)
theorem ty_bl_str (k : Bool) : isTy P b c (.bl k) (.blt "str") = some false := by first | rfl | (show L2.kitB "bool" "str" = _; decide +kernel)
theorem ty_bl_tuple (k : Bool) : isTy P b c (.bl k) (.blt "tuple") = some false := by first | rfl | (show L2.kitB "bool" "tuple" = _; decide +kernel)
theorem ty_bl_list (k : Bool) : isTy P b c (.bl k) (.blt "list") = some false := by first | rfl | (show L2.kitB "bool" "list" = _; decide +kernel)
theorem ty_bl_dict (k : Bool) : isTy P b c (.bl k) (.blt "dict") = some false := by first | rfl | (show L2.kitB "bool" "dict" = _; decide +kernel)
theorem ty_bl_own (k : Bool) (z : Str) : isTy P b c (.bl k) (.own z) = some false := rfl
theorem ty_int_int (k : Int) : isTy P b c (.int k) (.blt "int") = some true := by first | rfl | (show L2.kitB "int" "int" = _; decide +kernel)
theorem ty_int_bool (k : Int) : isTy P b c (.int k) (.blt "bool") = some false := by first | rfl | (show L2.kitB "int" "bool" = _; decide +kernel)
theorem ty_int_str (k : Int) : isTy P b c (.int k) (.blt "str") = some false := by first | rfl | (show L2.kitB "int" "str" = _; decide +kernel)
theorem ty_int_tuple (k : Int) : isTy P b c (.int k) (.blt "tuple") = some false := by first | rfl | (show L2.kitB "int" "tuple" = _; decide +kernel)
theorem ty_int_list (k : Int) : isTy P b c (.int k) (.blt "list") = some false := by first | rfl | (show L2.kitB "int" "list" = _; decide +kernel)
theorem ty_int_dict (k : Int) : isTy P b c (.int k) (.blt "dict") = some false := by first | rfl | (show L2.kitB "int" "dict" = _; decide +kernel)
theorem ty_int_own (k : Int) (z : Str) : isTy P b c (.int k) (.own z) = some false := rfl
theorem ty_str_int (k : Str) : isTy P b c (.str k) (.blt "int") = some false := by first | rfl | (show L2.kitB "str" "int" = _; decide +kernel)
theorem ty_str_bool (k : Str) : isTy P b c (.str k) (.blt "bool") = some false := by first | rfl | (show L2.kitB "str" "bool" = _; decide +kernel)
theorem ty_str_str (k : Str) : isTy P b c (.str k) (.blt "str") = some true := by first | rfl | (show L2.kitB "str" "str" = _; decide +kernel)
theorem ty_str_tuple (k : Str) : isTy P b c (.str k) (.blt "tuple") = some false := by first | rfl | (show L2.kitB "str" "tuple" = _; decide +kernel)
theorem ty_str_list (k : Str) : isTy P b c (.str k) (.blt "list") = some false := by first | rfl | (show L2.kitB "str" "list" = _; decide +kernel)
theorem ty_str_dict (k : Str) : isTy P b c (.str k) (.blt "dict") = some false := by first | rfl | (show L2.kitB "str" "dict" = _; decide +kernel)
theorem ty_str_own (k : Str) (z : Str) : isTy P b c (.str k) (.own z) = some false := rfl
theorem ty_tup_int (k : List D) : isTy P b c (.tup k) (.blt "int") = some false := by first | rfl | (show L2.kitB "tuple" "int" = _; decide +kernel)
theorem ty_tup_bool (k : List D) : isTy P b c (.tup k) (.blt "bool") = some false := by first | rfl | (show L2.kitB "tuple" "bool" = _; decide +kernel)
theorem ty_tup_str (k : List D) : isTy P b c (.tup k) (.blt "str") = some false := by first | rfl | (show L2.kitB "tuple" "str" = _; decide +kernel)
theorem ty_tup_tuple (k : List D) : isTy P b c (.tup k) (.blt "tuple") = some true := by first | rfl | (show L2.kitB "tuple" "tuple" = _; decide +kernel)
theorem ty_tup_list (k : List D) : isTy P b c (.tup k) (.blt "list") = some false := by first | rfl | (show L2.kitB "tuple" "list" = _; decide +kernel)
theorem ty_tup_dict (k : List D) : isTy P b c (.tup k) (.blt "dict") = some false := by first | rfl | (show L2.kitB "tuple" "dict" = _; decide +kernel)
theorem ty_tup_own (k : List D) (z : Str) : isTy P b c (.tup k) (.own z) = some false := rfl
theorem ty_lst_int (k : List D) : isTy P b c (.lst k) (.blt "int") = some false := by first | rfl | (show L2.kitB "list" "int" = _; decide +kernel)
theorem ty_lst_bool (k : List D) : isTy P b c (.lst k) (.blt "bool") = some false := by first | rfl | (show L2.kitB "list" "bool" = _; decide +kernel)
theorem ty_lst_str (k : List D) : isTy P b c (.lst k) (.blt "str") = some false := by first | rfl | (show L2.kitB "list" "str" = _; decide +kernel)
theorem ty_lst_tuple (k : List D) : isTy P b c (.lst k) (.blt "tuple") = some false := by first | rfl | (show L2.kitB "list" "tuple" = _; decide +kernel)
theorem ty_lst_list (k : List D) : isTy P b c (.lst k) (.blt "list") = some true := by first | rfl | (show L2.kitB "list" "list" = _; decide +kernel)
theorem ty_lst_dict (k : List D) : isTy P b c (.lst k) (.blt "dict") = some false := by first | rfl | (show L2.kitB "list" "dict" = _; decide +kernel)
theorem ty_lst_own (k : List D) (z : Str) : isTy P b c (.lst k) (.own z) = some false := rfl
theorem ty_ins (k : Str) (fs : List (Str × D)) (t : Ty) : isTy P b c (.ins k fs) t = P.below k t := rfl
theorem tx_bl (k : Bool) : truX P call (.bl k) b c = .ok k c := rfl
theorem bq_bl (k : Bool) : bool? (.bl k) = some k := rfl
theorem ag_nm (i : Nat) (γ : Env) : asgT (.nm i) x γ = if i < γ.length then some (γ.set i (some x)) else none := rfl
theorem ag_tp (is : List Nat) (xs : List D) (γ : Env) : asgT (.tp is) (.tup xs) γ = asgT.asgL is xs γ := rfl
theorem ag_tl (is : List Nat) (xs : List D) (γ : Env) : asgT (.tp is) (.lst xs) γ = asgT.asgL is xs γ := rfl
theorem al_0 (γ : Env) : asgT.asgL [] [] γ = some γ := rfl
theorem al_1 (i : Nat) (is : List Nat) (xs : List D) (γ : Env) : asgT.asgL (i :: is) (x :: xs) γ = if i < γ.length then asgT.asgL is xs (γ.set i (some x)) else none := rfl
theorem wp_0 (γ : Env) : wipeE γ [] = γ := rfl
theorem wp_1 (γ : Env) (i : Nat) (is : List Nat) : wipeE γ (i :: is) = (wipeE γ is).set i none := rfl
theorem cw_xs (step : D → Nat → List Cell → Res (Option D)) (l : List D) : compW step b (.xs l) = compL step b l := rfl
theorem fw_xs (step : D → Env → Nat → List Cell → Res Fl) (l : List D) : forW step b (.xs l) = forL step b l := rfl
theorem iw_xs (l : List D) : itemsW (.xs l) = some l := rfl
theorem fn_rt  : fin (.rt x) c = .ok x c := rfl
theorem fn_nx (γ : Env) : fin (.nx γ) c = .ok .non c := rfl
theorem nl_f (xs : List D) : newLst false xs b c = if xs.length ≤ sizeLine then .ok (.lst xs) c else .bad := rfl
theorem sm_tup (xs : List D) (lo hi : Option Int) : slSem b c (.tup xs) lo hi = some (.tup (cutD xs lo hi)) := rfl
theorem sm_lst (xs : List D) (lo hi : Option Int) : slSem b c (.lst xs) lo hi = some (.lst (cutD xs lo hi)) := rfl
theorem po_int (i : Int) : partOf (.int i) = some (some i) := rfl
theorem bn_add (i j : Int) : binSem .Add b c (.int i) (.int j) = some (.int (i + j)) := rfl
theorem bn_sub (i j : Int) : binSem .Sub b c (.int i) (.int j) = some (.int (i - j)) := rfl
theorem bn_addL (xs ys : List D) : binSem .Add b c (.lst xs) (.lst ys) = if xs.length + ys.length ≤ sizeLine then some (.lst (xs ++ ys)) else none := rfl
theorem bn_addT (xs ys : List D) : binSem .Add b c (.tup xs) (.tup ys) = if xs.length + ys.length ≤ sizeLine then some (.tup (xs ++ ys)) else none := rfl
theorem bn_addS (xs ys : Str) : binSem .Add b c (.str xs) (.str ys) = if xs.length + ys.length ≤ sizeLine then some (.str (xs ++ ys)) else none := rfl
end
theorem rb_assoc {α β γ : Type} (r : Res α) (f : α → List Cell → Res β) (g : β → List Cell → Res γ) : (r.bind f).bind g = r.bind fun a c => (f a c).bind g := by cases r <;> rfl
/-- a turn goes on -/
def Goes (r : Res Fl) (c : List Cell) (I : MP.Env → Prop) : Prop := match r with
  | .ok (.nx γ) c' => c' = c ∧ I γ
  | _ => False
theorem goes_nx (γ : MP.Env) (c : List Cell) (I : MP.Env → Prop) : Goes (.ok (.nx γ) c) c I = I γ := by simp [Goes]
theorem goes_of {r : Res Fl} {c : List Cell} {I : MP.Env → Prop} (h : Goes r c I) : ∃ γ, r = .ok (.nx γ) c ∧ I γ := by
  cases r with
  | ok f c' =>
    cases f with
    | nx γ => obtain ⟨rfl, h⟩ := h; exact ⟨γ, rfl, h⟩
    | _ => exact h.elim
  | _ => exact h.elim
/-- a for that only goes on -/
theorem for_nx {α β : Type} {step : D → MP.Env → Nat → List Cell → Res Fl} {b : Nat} {c : List Cell} {e : α → D} {k : Fl → List Cell → Res β} {r : Res β} (I : MP.Env → Prop) {xs : List α} {γ : MP.Env} (h0 : I γ)
    (hs : ∀ x ∈ xs, ∀ γ, I γ → Goes (step (e x) γ b c) c I) (hk : ∀ γ, I γ → k (.nx γ) c = r) : (forL step b (xs.map e) γ c).bind k = r := by
  induction xs generalizing γ with
  | nil => exact hk γ h0
  | cons x xs ih =>
    obtain ⟨γ1, h1, h2⟩ := goes_of (hs x (List.mem_cons_self ..) γ h0)
    rw [List.map_cons, forL, h1, Res.bind_ok]
    exact ih h2 fun y hy => hs y (List.mem_cons_of_mem _ hy)
/-- a for that gathers: what is known follows the items -/
theorem for_acc {α β : Type} {step : D → MP.Env → Nat → List Cell → Res Fl} {b : Nat} {c : List Cell} {e : α → D} {k : Fl → List Cell → Res β} {r : Res β} (I : List α → MP.Env → Prop) {xs : List α} {γ : MP.Env} (h0 : I [] γ)
    (hs : ∀ pre x post, xs = pre ++ x :: post → ∀ γ, I pre γ → Goes (step (e x) γ b c) c (I (pre ++ [x]))) (hk : ∀ γ, I xs γ → k (.nx γ) c = r) : (forL step b (xs.map e) γ c).bind k = r := by
  have go : ∀ (post pre : List α) (γ : MP.Env), xs = pre ++ post → I pre γ → (forL step b (post.map e) γ c).bind k = r := by
    intro post
    induction post with
    | nil =>
      intro pre γ he hi
      rw [List.append_nil] at he
      subst he
      exact hk γ hi
    | cons x post ih =>
      intro pre γ he hi
      obtain ⟨γ1, h1, h2⟩ := goes_of (hs pre x post he γ hi)
      rw [List.map_cons, forL, h1, Res.bind_ok]
      exact ih (pre ++ [x]) γ1 (by rw [he]; simp) h2
  exact go xs [] γ rfl h0
end MP
end
section
open PySem MP
local macro_rules | `(tactic| dsimp! [$xs,*]) => `(tactic| (simp -dsimp [↓bindS, ↓forS1, ↓compS1, ↓foldS1, ↓forW1, ↓compW1, bnd_ok, bnd_bad, forS_n, forS_c, compS_n, compS_c, foldS_n, foldS_c, forW_x, compW_x, evSs, evS, ev, evs, evAnd, evOr, evT, evTA, evTO, evI, evC, evP, env0, K.toD, K.toDs, MP.sizeLine, strEq, canLit, ix_tup, ix_lst, il_non, il_bl, il_int, il_str, il_tup, il_lst, il_dic, il_scr, il_ins, il_ref, il_fn, cx_Eq_non, cx_Eq_bl, cx_Eq_int, cx_Eq_str, cx_Eq_tup, cx_Eq_lst, cx_Eq_dic, cx_Eq_scr, cx_NotEq_non, cx_NotEq_bl, cx_NotEq_int, cx_NotEq_str, cx_NotEq_tup, cx_NotEq_lst, cx_NotEq_dic, cx_NotEq_scr, cx_Lt, cx_LtE, cx_Gt, cx_GtE, cx_Is, cx_IsNot, cx_In_non, cx_In_bl, cx_In_int, cx_In_str, cx_In_tup, cx_In_lst, cx_In_dic, cx_In_scr, cx_NotIn_non, cx_NotIn_bl, cx_NotIn_int, cx_NotIn_str, cx_NotIn_tup, cx_NotIn_lst, cx_NotIn_dic, cx_NotIn_scr, cs_Eq, cs_NotEq, cs_Lt, cs_LtE, cs_Gt, cs_GtE, cs_Is, cs_IsNot, cs_In, cs_NotIn, nn_non, nn_bl, nn_int, nn_str, nn_tup, nn_lst, nn_dic, nn_scr, nn_ins, in_tup, in_lst, in_dic, fl_non, fl_bl, fl_int, fl_str, ef_nn, ef_ii, ef_ss, ef_in, ef_sn, ef_ni, ef_ns, ef_is, ef_si, bx_len_tup, bx_len_lst, bx_len_dic, bx_len_scr, bx_len_str, bx_tuple, bx_list, bx_dict, bx_int, bx_str, bx_abs, bx_max, bx_min, bx_sum, bx_all, bx_any, bx_repr, bs_len_tup, bs_len_lst, bs_len_scr, bs_len_dic, bs_tuple_lst, bs_tuple_tup, bs_list_tup, bs_list_lst, bs_sum, bs_all, ty_non_int, ty_non_bool, ty_non_str, ty_non_tuple, ty_non_list, ty_non_dict, ty_non_own, ty_bl_int, ty_bl_bool, ty_bl_str, ty_bl_tuple, ty_bl_list, ty_bl_dict, ty_bl_own, ty_int_int, ty_int_bool, ty_int_str, ty_int_tuple, ty_int_list, ty_int_dict, ty_int_own, ty_str_int, ty_str_bool, ty_str_str, ty_str_tuple, ty_str_list, ty_str_dict, ty_str_own, ty_tup_int, ty_tup_bool, ty_tup_str, ty_tup_tuple, ty_tup_list, ty_tup_dict, ty_tup_own, ty_lst_int, ty_lst_bool, ty_lst_str, ty_lst_tuple, ty_lst_list, ty_lst_dict, ty_lst_own, ty_ins, tx_bl, bq_bl, ag_nm, ag_tp, ag_tl, al_0, al_1, wp_0, wp_1, iw_xs, fn_rt, fn_nx, nl_f, sm_tup, sm_lst, po_int, bn_add, bn_sub, bn_addL, bn_addT, bn_addS, $xs,*] <;> (try delta Bnd) <;> (try delta ForL ForW) <;> (try delta CompL CompW FoldL)))
section
set_option maxRecDepth 100000
set_option maxHeartbeats 0
namespace Hk01
open PySem MP
abbrev P : Prog := spec.P

def c_is_integer : Fun := ⟨["value"], 1,
(.cons (.ret (.an (.cons (.isi (.var 0) [(.blt "int")]) (.cons (.nt (.isi (.var 0) [(.blt "bool")])) .nil))))
 .nil), .keep⟩

def c_is_between : Fun := ⟨["value", "least", "most"], 3,
(.cons (.ret (.an (.cons (.call "is_integer" (.cons (.var 0) .nil) []) (.cons (.chain .LtE .LtE (.var 1) (.var 0) (.var 2)) .nil))))
 .nil), .keep⟩

def c_is_constant : Fun := ⟨["value"], 1,
(.cons (.ret (.orr (.cons (.cmp .Is (.var 0) (.con .non)) (.cons (.call "is_between" (.cons (.var 0) (.cons (.neg (.con (.int 900))) (.cons (.con (.int 900)) .nil))) []) .nil))))
 .nil), .keep⟩

def c_is_name : Fun := ⟨["value", "sign"], 1,
(.cons (.ife (.orr (.cons (.nt (.tv (.isi (.var 0) [(.blt "str")]))) (.cons (.nt (.e (.chain .LtE .LtE (.con (.int 1)) (.blt .len (.cons (.var 0) .nil)) (.con (.int 8))))) (.one (.e (.cmp .In (.var 0) (.con (.tup [(.str "and"), (.str "any"), (.str "default"), (.str "empty"), (.str "fill"), (.str "not"), (.str "or"), (.str "start"), (.str "true"), (.str "where"), (.str "with")]))))))))
 (.cons (.ret (.con (.bl false)))
 .nil)
 .nil)
 (.cons (.ret (.blt .all (.cons (.comp (.cmp .In (.var 1) (.con (.str "abcdefghijklmnopqrstuvwxyz"))) (.nm 1) (.seq (.var 0)) .none [1] false) .nil)))
 .nil)), .keep⟩

def c_are_unlike : Fun := ⟨["some", "each"], 1,
(.cons (.ret (.cmp .Eq (.blt .len (.cons (.dcomp (.var 1) (.con (.bl true)) (.nm 1) (.seq (.var 0)) .none [1]) .nil)) (.blt .len (.cons (.var 0) .nil))))
 .nil), .keep⟩

def c_is_plain : Fun := ⟨["value", "columns"], 2,
(.cons (.ife (.e (.cmp .Eq (.idx (.var 0) (.con (.int 0))) (.con (.str "true"))))
 (.cons (.ret (.cmp .Eq (.blt .len (.cons (.var 0) .nil)) (.con (.int 1))))
 .nil)
 .nil)
 (.cons (.ife (.orr (.cons (.e (.cmp .Lt (.blt .len (.cons (.var 0) .nil)) (.con (.int 2)))) (.cons (.nt (.tv (.isi (.idx (.var 0) (.con (.int 1))) [(.blt "str")]))) (.one (.e (.cmp .NotIn (.idx (.var 0) (.con (.int 1))) (.var 1)))))))
 (.cons (.ret (.con (.bl false)))
 .nil)
 .nil)
 (.cons (.ife (.e (.cmp .Eq (.idx (.var 0) (.con (.int 0))) (.con (.str "empty"))))
 (.cons (.ret (.cmp .Eq (.blt .len (.cons (.var 0) .nil)) (.con (.int 2))))
 .nil)
 .nil)
 (.cons (.ife (.orr (.cons (.e (.cmp .NotEq (.idx (.var 0) (.con (.int 0))) (.con (.str "compare")))) (.cons (.e (.cmp .NotEq (.blt .len (.cons (.var 0) .nil)) (.con (.int 4)))) (.cons (.nt (.tv (.isi (.idx (.var 0) (.con (.int 2))) [(.blt "str")]))) (.one (.e (.cmp .NotIn (.idx (.var 0) (.con (.int 2))) (.con (.tup [(.str "="), (.str "<>"), (.str "<"), (.str "<="), (.str ">"), (.str ">=")])))))))))
 (.cons (.ret (.con (.bl false)))
 .nil)
 .nil)
 (.cons (.ret (.call "is_between" (.cons (.idx (.var 0) (.con (.int 3))) (.cons (.neg (.con (.int 900))) (.cons (.con (.int 900)) .nil))) []))
 .nil))))), .keep⟩

def c_many_plain : Fun := ⟨["value", "columns", "deep", "found", "part"], 3,
(.cons (.ife (.orr (.cons (.e (.cmp .Eq (.var 2) (.con (.int 0)))) (.cons (.nt (.tv (.isi (.var 0) [(.blt "tuple")]))) (.cons (.e (.cmp .Eq (.var 0) (.tup .nil))) (.one (.nt (.tv (.isi (.idx (.var 0) (.con (.int 0))) [(.blt "str")]))))))))
 (.cons (.ret (.con .non))
 .nil)
 .nil)
 (.cons (.ife (.orr (.cons (.an (.cons (.e (.cmp .In (.idx (.var 0) (.con (.int 0))) (.tup (.cons (.con (.str "and")) (.cons (.con (.str "or")) .nil))))) (.one (.e (.cmp .Eq (.blt .len (.cons (.var 0) .nil)) (.con (.int 3))))))) (.one (.an (.cons (.e (.cmp .Eq (.idx (.var 0) (.con (.int 0))) (.con (.str "not")))) (.one (.e (.cmp .Eq (.blt .len (.cons (.var 0) .nil)) (.con (.int 2))))))))))
 (.cons (.asg (.nm 3) (.comp (.call "many_plain" (.cons (.var 4) (.cons (.var 1) (.cons (.bin .Sub (.var 2) (.con (.int 1))) .nil))) []) (.nm 4) (.seq (.slc (.var 0) (.some (.con (.int 1))) .none)) .none [4] false))
 (.cons (.ret (.ite (.e (.cmp .In (.con .non) (.var 3))) (.con .non) (.blt .sum (.cons (.var 3) .nil))))
 .nil))
 .nil)
 (.cons (.ret (.ite (.tv (.call "is_plain" (.cons (.var 0) (.cons (.var 1) .nil)) [])) (.con (.int 1)) (.con .non)))
 .nil))), .keep⟩

def c_is_test : Fun := ⟨["value", "columns", "found"], 2,
(.cons (.asg (.nm 2) (.call "many_plain" (.cons (.var 0) (.cons (.var 1) (.cons (.con (.int 5)) .nil))) []))
 (.cons (.ret (.an (.cons (.cmp .IsNot (.var 2) (.con .non)) (.cons (.cmp .LtE (.var 2) (.con (.int 6))) .nil))))
 .nil)), .keep⟩

def c_columns_in : Fun := ⟨["test", "part", "column"], 1,
(.cons (.ife (.e (.cmp .In (.idx (.var 0) (.con (.int 0))) (.tup (.cons (.con (.str "compare")) (.cons (.con (.str "empty")) .nil)))))
 (.cons (.ret (.lst (.cons (.idx (.var 0) (.con (.int 1))) .nil) false))
 .nil)
 .nil)
 (.cons (.ret (.comp2 (.var 2) (.nm 1) (.seq (.slc (.var 0) (.some (.con (.int 1))) .none)) .none (.nm 2) (.seq (.call "columns_in" (.cons (.var 1) .nil) [])) .none [1, 2] [2] false))
 .nil)), .keep⟩

def c_are_pairs : Fun := ⟨["value", "least", "sources", "pair"], 3,
(.cons (.ife (.orr (.cons (.nt (.tv (.isi (.var 0) [(.blt "tuple")]))) (.one (.nt (.e (.chain .LtE .LtE (.var 1) (.blt .len (.cons (.var 0) .nil)) (.con (.int 4))))))))
 (.cons (.ret (.con (.bl false)))
 .nil)
 .nil)
 (.cons (.for (.nm 3) (.seq (.var 0))
 (.cons (.ife (.orr (.cons (.nt (.tv (.isi (.var 3) [(.blt "tuple")]))) (.cons (.e (.cmp .NotEq (.blt .len (.cons (.var 3) .nil)) (.con (.int 2)))) (.one (.nt (.tv (.call "is_name" (.cons (.idx (.var 3) (.con (.int 0))) .nil) [])))))))
 (.cons (.ret (.con (.bl false)))
 .nil)
 .nil)
 (.cons (.ife (.an (.cons (.nt (.tv (.call "is_constant" (.cons (.idx (.var 3) (.con (.int 1))) .nil) []))) (.one (.nt (.an (.cons (.tv (.var 2)) (.cons (.tv (.isi (.idx (.var 3) (.con (.int 1))) [(.blt "str")])) (.one (.e (.cmp .Eq (.idx (.var 3) (.con (.int 1))) (.con (.str "any"))))))))))))
 (.cons (.ret (.con (.bl false)))
 .nil)
 .nil)
 .nil)))
 (.cons (.ret (.call "are_unlike" (.cons (.comp (.idx (.var 3) (.con (.int 0))) (.nm 3) (.seq (.var 0)) .none [3] false) .nil) []))
 .nil))), .keep⟩

def c_AnyNames___contains__ : Fun := ⟨["self", "value"], 2,
(.cons (.ret (.call "is_name" (.cons (.var 1) .nil) []))
 .nil), .keep⟩

def c_is_free_test : Fun := ⟨["value"], 1,
(.cons (.ret (.call "is_test" (.cons (.var 0) (.cons (.mk "AnyNames" .nil []) .nil)) []))
 .nil), .keep⟩

def c_is_kind : Fun := ⟨["value"], 1,
(.cons (.ife (.orr (.cons (.nt (.tv (.isi (.var 0) [(.blt "tuple")]))) (.cons (.e (.cmp .Eq (.var 0) (.tup .nil))) (.one (.nt (.tv (.isi (.idx (.var 0) (.con (.int 0))) [(.blt "str")])))))))
 (.cons (.ret (.con (.bl false)))
 .nil)
 .nil)
 (.cons (.ife (.e (.cmp .Eq (.idx (.var 0) (.con (.int 0))) (.con (.str "insert"))))
 (.cons (.ret (.an (.cons (.cmp .Eq (.blt .len (.cons (.var 0) .nil)) (.con (.int 3))) (.cons (.call "are_pairs" (.cons (.idx (.var 0) (.con (.int 1))) (.cons (.con (.int 0)) (.cons (.con (.bl true)) .nil))) []) (.cons (.call "is_free_test" (.cons (.idx (.var 0) (.con (.int 2))) .nil) []) .nil)))))
 .nil)
 .nil)
 (.cons (.ife (.e (.cmp .Eq (.idx (.var 0) (.con (.int 0))) (.con (.str "delete"))))
 (.cons (.ret (.an (.cons (.cmp .Eq (.blt .len (.cons (.var 0) .nil)) (.con (.int 2))) (.cons (.call "is_free_test" (.cons (.idx (.var 0) (.con (.int 1))) .nil) []) .nil))))
 .nil)
 .nil)
 (.cons (.ife (.orr (.cons (.e (.cmp .NotEq (.idx (.var 0) (.con (.int 0))) (.con (.str "update")))) (.cons (.e (.cmp .NotEq (.blt .len (.cons (.var 0) .nil)) (.con (.int 4)))) (.one (.nt (.tv (.call "are_pairs" (.cons (.idx (.var 0) (.con (.int 1))) (.cons (.con (.int 1)) (.cons (.con (.bl true)) .nil))) [])))))))
 (.cons (.ret (.con (.bl false)))
 .nil)
 .nil)
 (.cons (.ret (.an (.cons (.call "is_free_test" (.cons (.idx (.var 0) (.con (.int 2))) .nil) []) (.cons (.call "is_free_test" (.cons (.idx (.var 0) (.con (.int 3))) .nil) []) .nil))))
 .nil))))), .keep⟩

def c_mentioned : Fun := ⟨["kind", "found", "test", "pair"], 1,
(.cons (.asg (.nm 1) (.ite (.e (.cmp .Eq (.idx (.var 0) (.con (.int 0))) (.con (.str "delete")))) (.lst .nil false) (.comp (.idx (.var 3) (.con (.int 0))) (.nm 3) (.seq (.idx (.var 0) (.con (.int 1)))) .none [3] false)))
 (.cons (.for (.nm 2) (.seq (.ite (.e (.cmp .Eq (.idx (.var 0) (.con (.int 0))) (.con (.str "delete")))) (.slc (.var 0) (.some (.con (.int 1))) .none) (.slc (.var 0) (.some (.con (.int 2))) .none)))
 (.cons (.asg (.nm 1) (.bin .Add (.var 1) (.call "columns_in" (.cons (.var 2) .nil) [])))
 .nil))
 (.cons (.ret (.var 1))
 .nil))), .keep⟩

def c_Stand___init__ : Fun := ⟨["self", "table", "rules", "active"], 4,
(.cons (.seta (.var 0) "table" (.var 1))
 (.cons (.seta (.var 0) "rules" (.var 2))
 (.cons (.seta (.var 0) "active" (.var 3))
 .nil))), .keep⟩

def c_Stand_heads : Fun := ⟨["self", "pair"], 1,
(.cons (.ret (.blt .tuple (.cons (.comp (.idx (.var 1) (.con (.int 0))) (.nm 1) (.seq (.att (.var 0) "table")) .none [1] false) .nil)))
 .nil), .keep⟩

def c_Stand_forced : Fun := ⟨["self", "pair"], 1,
(.cons (.ret (.blt .tuple (.cons (.comp (.idx (.var 1) (.con (.int 0))) (.nm 1) (.seq (.att (.var 0) "rules")) .none [1] false) .nil)))
 .nil), .keep⟩

def c_Stand_has_all : Fun := ⟨["self", "columns", "column"], 2,
(.cons (.ret (.blt .all (.cons (.comp (.cmp .In (.var 2) (.att (.var 0) "heads")) (.nm 2) (.seq (.var 1)) .none [2] false) .nil)))
 .nil), .keep⟩

def c_is_shaped : Fun := ⟨["value"], 1,
(.cons (.ife (.orr (.cons (.nt (.tv (.isi (.var 0) [(.blt "tuple")]))) (.cons (.e (.cmp .Eq (.var 0) (.tup .nil))) (.cons (.nt (.tv (.isi (.idx (.var 0) (.con (.int 0))) [(.blt "str")]))) (.one (.e (.kin true (.idx (.var 0) (.con (.int 0))) [("add", (.int 3)), ("look", (.int 2)), ("drop", (.int 2)), ("begin", (.int 2)), ("end", (.int 2)), ("default", (.int 3)), ("column", (.int 3)), ("remove", (.int 2)), ("fill", (.int 3))])))))))
 (.cons (.ret (.con (.bl false)))
 .nil)
 .nil)
 (.cons (.ret (.an (.cons (.cmp .Eq (.blt .len (.cons (.var 0) .nil)) (.kix (.idx (.var 0) (.con (.int 0))) [("add", (.int 3)), ("look", (.int 2)), ("drop", (.int 2)), ("begin", (.int 2)), ("end", (.int 2)), ("default", (.int 3)), ("column", (.int 3)), ("remove", (.int 2)), ("fill", (.int 3))])) (.cons (.orr (.cons (.cmp .Eq (.idx (.var 0) (.con (.int 0))) (.con (.str "fill"))) (.cons (.isi (.idx (.var 0) (.con (.int 1))) [(.blt "str")]) .nil))) .nil))))
 .nil)), .keep⟩

def c_after_rule : Fun := ⟨["stand", "step", "word", "name", "pair"], 2,
(.cons (.asg (.tp [2, 3]) (.tup (.cons (.idx (.var 1) (.con (.int 0))) (.cons (.idx (.var 1) (.con (.int 1))) .nil))))
 (.cons (.ife (.e (.cmp .Eq (.var 2) (.con (.str "add"))))
 (.cons (.ife (.orr (.cons (.nt (.tv (.call "is_name" (.cons (.var 3) .nil) []))) (.cons (.e (.cmp .In (.var 3) (.att (.var 0) "forced"))) (.one (.e (.cmp .Eq (.blt .len (.cons (.att (.var 0) "rules") .nil)) (.con (.int 4))))))))
 (.cons (.ret (.con .non))
 .nil)
 .nil)
 (.cons (.ife (.nt (.tv (.call "is_test" (.cons (.idx (.var 1) (.con (.int 2))) (.cons (.att (.var 0) "heads") .nil)) [])))
 (.cons (.ret (.con .non))
 .nil)
 .nil)
 (.cons (.ret (.mk "Stand" (.cons (.att (.var 0) "table") (.cons (.bin .Add (.att (.var 0) "rules") (.tup (.cons (.tup (.cons (.var 3) (.cons (.idx (.var 1) (.con (.int 2))) .nil))) .nil))) (.cons (.att (.var 0) "active") .nil))) []))
 .nil)))
 .nil)
 (.cons (.ife (.e (.cmp .NotIn (.var 3) (.att (.var 0) "forced")))
 (.cons (.ret (.con .non))
 .nil)
 .nil)
 (.cons (.ife (.e (.cmp .Eq (.var 2) (.con (.str "look"))))
 (.cons (.ret (.var 0))
 .nil)
 .nil)
 (.cons (.ret (.mk "Stand" (.cons (.att (.var 0) "table") (.cons (.blt .tuple (.cons (.comp (.var 4) (.nm 4) (.seq (.att (.var 0) "rules")) (.some (.e (.cmp .NotEq (.idx (.var 4) (.con (.int 0))) (.var 3)))) [4] false) .nil)) (.cons (.att (.var 0) "active") .nil))) []))
 .nil))))), .keep⟩

def c_after_writer : Fun := ⟨["stand", "step", "writers", "word", "name", "known", "some", "each", "kind"], 3,
(.cons (.asg (.tp [3, 4]) (.var 1))
 (.cons (.asg (.nm 5) (.blt .dict (.cons (.var 2) .nil)))
 (.cons (.ife (.orr (.cons (.e (.cmp .NotIn (.var 4) (.var 5))) (.one (.e (.cmp .NotEq (.cmp .In (.var 4) (.att (.var 0) "active")) (.cmp .Eq (.var 3) (.con (.str "end"))))))))
 (.cons (.ret (.con .non))
 .nil)
 .nil)
 (.cons (.ife (.e (.cmp .Eq (.var 3) (.con (.str "end"))))
 (.cons (.ret (.mk "Stand" (.cons (.att (.var 0) "table") (.cons (.att (.var 0) "rules") (.cons (.blt .tuple (.cons (.comp (.var 7) (.nm 7) (.seq (.att (.var 0) "active")) (.some (.e (.cmp .NotEq (.var 7) (.var 4)))) [7] false) .nil)) .nil))) []))
 .nil)
 .nil)
 (.cons (.ife (.nt (.tv (.mth (.var 0) "has_all" (.cons (.call "mentioned" (.cons (.idx (.var 5) (.var 4)) .nil) []) .nil))))
 (.cons (.ret (.con .non))
 .nil)
 .nil)
 (.cons (.asg (.nm 6) (.bin .Add (.att (.var 0) "active") (.tup (.cons (.var 4) .nil))))
 (.cons (.ret (.mk "Stand" (.cons (.att (.var 0) "table") (.cons (.att (.var 0) "rules") (.cons (.blt .tuple (.cons (.comp (.var 7) (.tp [7, 8]) (.seq (.var 2)) (.some (.e (.cmp .In (.var 7) (.var 6)))) [7, 8] false) .nil)) .nil))) []))
 .nil))))))), .keep⟩

def c_after_column : Fun := ⟨["stand", "step", "writers", "word", "name", "used", "table", "rule", "test", "column", "each", "kind", "pair", "old"], 3,
(.cons (.asg (.tp [3, 4]) (.tup (.cons (.idx (.var 1) (.con (.int 0))) (.cons (.idx (.var 1) (.con (.int 1))) .nil))))
 (.cons (.ife (.e (.cmp .Eq (.var 3) (.con (.str "remove"))))
 (.cons (.asg (.nm 5) (.comp2 (.var 9) (.tp [7, 8]) (.seq (.att (.var 0) "rules")) .none (.nm 9) (.seq (.call "columns_in" (.cons (.var 8) .nil) [])) .none [7, 8, 9] [9] false))
 (.cons (.asg (.nm 5) (.bin .Add (.var 5) (.comp2 (.var 9) (.tp [10, 11]) (.seq (.var 2)) (.some (.e (.cmp .In (.var 10) (.att (.var 0) "active")))) (.nm 9) (.seq (.call "mentioned" (.cons (.var 11) .nil) [])) .none [10, 11, 9] [9] false)))
 (.cons (.ife (.orr (.cons (.e (.cmp .NotIn (.var 4) (.att (.var 0) "heads"))) (.cons (.e (.cmp .Eq (.blt .len (.cons (.att (.var 0) "heads") .nil)) (.con (.int 1)))) (.one (.e (.cmp .In (.var 4) (.var 5)))))))
 (.cons (.ret (.con .non))
 .nil)
 .nil)
 (.cons (.ret (.mk "Stand" (.cons (.blt .tuple (.cons (.comp (.var 12) (.nm 12) (.seq (.att (.var 0) "table")) (.some (.e (.cmp .NotEq (.idx (.var 12) (.con (.int 0))) (.var 4)))) [12] false) .nil)) (.cons (.att (.var 0) "rules") (.cons (.att (.var 0) "active") .nil))) []))
 .nil))))
 .nil)
 (.cons (.ife (.nt (.tv (.call "is_constant" (.cons (.idx (.var 1) (.con (.int 2))) .nil) [])))
 (.cons (.ret (.con .non))
 .nil)
 .nil)
 (.cons (.ife (.e (.cmp .Eq (.var 3) (.con (.str "default"))))
 (.cons (.ife (.e (.cmp .NotIn (.var 4) (.att (.var 0) "heads")))
 (.cons (.ret (.con .non))
 .nil)
 .nil)
 (.cons (.asg (.nm 6) (.blt .tuple (.cons (.comp (.tup (.cons (.var 9) (.cons (.ite (.e (.cmp .Eq (.var 9) (.var 4))) (.idx (.var 1) (.con (.int 2))) (.var 13)) .nil))) (.tp [9, 13]) (.seq (.att (.var 0) "table")) .none [9, 13] false) .nil)))
 (.cons (.ret (.mk "Stand" (.cons (.var 6) (.cons (.att (.var 0) "rules") (.cons (.att (.var 0) "active") .nil))) []))
 .nil)))
 .nil)
 (.cons (.ife (.orr (.cons (.nt (.tv (.call "is_name" (.cons (.var 4) .nil) []))) (.cons (.e (.cmp .In (.var 4) (.att (.var 0) "heads"))) (.one (.e (.cmp .Eq (.blt .len (.cons (.att (.var 0) "heads") .nil)) (.con (.int 4))))))))
 (.cons (.ret (.con .non))
 .nil)
 .nil)
 (.cons (.ret (.mk "Stand" (.cons (.bin .Add (.att (.var 0) "table") (.tup (.cons (.tup (.cons (.var 4) (.cons (.idx (.var 1) (.con (.int 2))) .nil))) .nil))) (.cons (.att (.var 0) "rules") (.cons (.att (.var 0) "active") .nil))) []))
 .nil)))))), .keep⟩

def c_after : Fun := ⟨["stand", "value", "writers", "pair"], 3,
(.cons (.ife (.nt (.tv (.call "is_shaped" (.cons (.var 1) .nil) [])))
 (.cons (.ret (.con .non))
 .nil)
 .nil)
 (.cons (.ife (.e (.cmp .In (.idx (.var 1) (.con (.int 0))) (.tup (.cons (.con (.str "add")) (.cons (.con (.str "look")) (.cons (.con (.str "drop")) .nil))))))
 (.cons (.ret (.call "after_rule" (.cons (.var 0) (.cons (.var 1) .nil)) []))
 .nil)
 .nil)
 (.cons (.ife (.e (.cmp .In (.idx (.var 1) (.con (.int 0))) (.tup (.cons (.con (.str "begin")) (.cons (.con (.str "end")) .nil)))))
 (.cons (.ret (.call "after_writer" (.cons (.var 0) (.cons (.var 1) (.cons (.var 2) .nil))) []))
 .nil)
 .nil)
 (.cons (.ife (.e (.cmp .NotEq (.idx (.var 1) (.con (.int 0))) (.con (.str "fill"))))
 (.cons (.ret (.call "after_column" (.cons (.var 0) (.cons (.var 1) (.cons (.var 2) .nil))) []))
 .nil)
 .nil)
 (.cons (.ife (.orr (.cons (.nt (.tv (.call "are_pairs" (.cons (.idx (.var 1) (.con (.int 1))) (.cons (.con (.int 1)) (.cons (.con (.bl false)) .nil))) []))) (.one (.nt (.tv (.mth (.var 0) "has_all" (.cons (.comp (.idx (.var 3) (.con (.int 0))) (.nm 3) (.seq (.idx (.var 1) (.con (.int 1)))) .none [3] false) .nil)))))))
 (.cons (.ret (.con .non))
 .nil)
 .nil)
 (.cons (.ret (.ite (.tv (.call "is_test" (.cons (.idx (.var 1) (.con (.int 2))) (.cons (.att (.var 0) "heads") .nil)) [])) (.var 0) (.con .non)))
 .nil)))))), .keep⟩

def c_is_pair : Fun := ⟨["value"], 1,
(.cons (.ret (.an (.cons (.isi (.var 0) [(.blt "tuple")]) (.cons (.cmp .Eq (.blt .len (.cons (.var 0) .nil)) (.con (.int 2))) (.cons (.call "is_name" (.cons (.idx (.var 0) (.con (.int 0))) .nil) []) .nil)))))
 .nil), .keep⟩

def c_wrong_one : Fun := ⟨["some", "most", "fits", "index", "each"], 3,
(.cons (.for (.tp [3, 4]) (.enm (.var 0))
 (.cons (.ife (.orr (.cons (.e (.cmp .Eq (.var 3) (.var 1))) (.one (.nt (.tv (.callv 2 (.cons (.var 4) (.cons (.slc (.var 0) .none (.some (.var 3))) .nil))))))))
 (.cons (.ret (.var 3))
 .nil)
 .nil)
 .nil))
 (.cons (.ret (.con .non))
 .nil)), .keep⟩

def c_is_column : Fun := ⟨["value", "ahead"], 2,
(.cons (.ret (.an (.cons (.call "is_pair" (.cons (.var 0) .nil) []) (.cons (.call "is_constant" (.cons (.idx (.var 0) (.con (.int 1))) .nil) []) (.cons (.cmp .NotIn (.idx (.var 0) (.con (.int 0))) (.blt .dict (.cons (.var 1) .nil))) .nil)))))
 .nil), .keep⟩

def c_is_rule : Fun := ⟨["value", "ahead", "columns"], 3,
(.cons (.ret (.an (.cons (.call "is_pair" (.cons (.var 0) .nil) []) (.cons (.call "is_test" (.cons (.idx (.var 0) (.con (.int 1))) (.cons (.var 2) .nil)) []) (.cons (.cmp .NotIn (.idx (.var 0) (.con (.int 0))) (.blt .dict (.cons (.var 1) .nil))) .nil)))))
 .nil), .keep⟩

def c_is_writer : Fun := ⟨["value", "ahead"], 2,
(.cons (.ret (.an (.cons (.call "is_pair" (.cons (.var 0) .nil) []) (.cons (.call "is_kind" (.cons (.idx (.var 0) (.con (.int 1))) .nil) []) (.cons (.cmp .NotIn (.idx (.var 0) (.con (.int 0))) (.blt .dict (.cons (.var 1) .nil))) .nil)))))
 .nil), .keep⟩

def c_can_begin : Fun := ⟨["value", "ahead", "writers", "columns", "column"], 4,
(.cons (.ife (.orr (.cons (.nt (.tv (.isi (.var 0) [(.blt "str")]))) (.cons (.e (.cmp .In (.var 0) (.var 1))) (.one (.e (.cmp .NotIn (.var 0) (.blt .dict (.cons (.var 2) .nil))))))))
 (.cons (.ret (.con (.bl false)))
 .nil)
 .nil)
 (.cons (.ret (.blt .all (.cons (.comp (.cmp .In (.var 4) (.var 3)) (.nm 4) (.seq (.call "mentioned" (.cons (.idx (.blt .dict (.cons (.var 2) .nil)) (.var 0)) .nil) [])) .none [4] false) .nil)))
 .nil)), .keep⟩

def c_stands_of : Fun := ⟨["table", "rules", "writers", "active", "steps", "found", "step", "later", "name", "kind"], 5,
(.cons (.asg (.nm 5) (.lst (.cons (.mk "Stand" (.cons (.var 0) (.cons (.var 1) (.cons (.blt .tuple (.cons (.comp (.var 8) (.tp [8, 9]) (.seq (.var 2)) (.some (.e (.cmp .In (.var 8) (.var 3)))) [8, 9] false) .nil)) .nil))) []) .nil) true))
 (.cons (.for (.nm 6) (.seq (.slc (.var 4) .none (.some (.con (.int 10)))))
 (.cons (.asg (.nm 7) (.call "after" (.cons (.idx (.var 5) (.neg (.con (.int 1)))) (.cons (.var 6) (.cons (.var 2) .nil))) []))
 (.cons (.ife (.e (.cmp .Is (.var 7) (.con .non)))
 (.cons .brk
 .nil)
 .nil)
 (.cons (.expr (.app (.var 5) (.var 7)))
 .nil))))
 (.cons (.ret (.var 5))
 .nil))), .pure⟩

def c_Plan___init__ : Fun := ⟨["self", "table", "rules", "writers", "active", "steps", "columns", "pair"], 6,
(.cons (.expr (.call "check_table" (.cons (.var 1) .nil) []))
 (.cons (.asg (.nm 6) (.blt .tuple (.cons (.comp (.idx (.var 7) (.con (.int 0))) (.nm 7) (.seq (.var 1)) .none [7] false) .nil)))
 (.cons (.expr (.call "check_rules" (.cons (.var 2) (.cons (.var 6) .nil)) []))
 (.cons (.expr (.call "check_writers" (.cons (.var 3) .nil) []))
 (.cons (.expr (.call "check_active" (.cons (.var 4) (.cons (.var 3) (.cons (.var 6) .nil))) []))
 (.cons (.ife (.nt (.tv (.isi (.var 5) [(.blt "tuple")])))
 (.cons (.rse "" .nil)
 .nil)
 .nil)
 (.cons (.seta (.var 0) "stands" (.call "stands_of" (.cons (.var 1) (.cons (.var 2) (.cons (.var 3) (.cons (.var 4) (.cons (.var 5) .nil))))) []))
 (.cons (.ife (.e (.cmp .LtE (.blt .len (.cons (.att (.var 0) "stands") .nil)) (.blt .len (.cons (.var 5) .nil))))
 (.cons (.rse "" .nil)
 .nil)
 .nil)
 (.cons (.seta (.var 0) "table" (.var 1))
 (.cons (.seta (.var 0) "rules" (.var 2))
 (.cons (.seta (.var 0) "writers" (.var 3))
 (.cons (.seta (.var 0) "active" (.var 4))
 (.cons (.seta (.var 0) "steps" (.var 5))
 .nil))))))))))))), .keep⟩

def c_Plan___len__ : Fun := ⟨["self"], 1,
(.cons (.ret (.blt .len (.cons (.att (.var 0) "steps") .nil)))
 .nil), .keep⟩

def c_Plan_stand : Fun := ⟨["self", "moment"], 2,
(.cons (.ife (.nt (.tv (.call "is_between" (.cons (.var 1) (.cons (.con (.int 0)) (.cons (.blt .len (.cons (.att (.var 0) "steps") .nil)) .nil))) [])))
 (.cons (.rse "" .nil)
 .nil)
 .nil)
 (.cons (.ret (.idx (.att (.var 0) "stands") (.var 1)))
 .nil)), .keep⟩

def c_Plan_columns : Fun := ⟨["self", "moment"], 2,
(.cons (.ret (.att (.mth (.var 0) "stand" (.cons (.var 1) .nil)) "heads"))
 .nil), .keep⟩

def c_Plan_in_force : Fun := ⟨["self", "moment"], 2,
(.cons (.ret (.att (.mth (.var 0) "stand" (.cons (.var 1) .nil)) "forced"))
 .nil), .keep⟩

def c_Plan_active_at : Fun := ⟨["self", "moment"], 2,
(.cons (.ret (.att (.mth (.var 0) "stand" (.cons (.var 1) .nil)) "active"))
 .nil), .keep⟩

def c_Plan_parts : Fun := ⟨["self"], 1,
(.cons (.ret (.tup (.cons (.att (.var 0) "table") (.cons (.att (.var 0) "rules") (.cons (.att (.var 0) "writers") (.cons (.att (.var 0) "active") (.cons (.att (.var 0) "steps") .nil)))))))
 .nil), .keep⟩

def c_Plan___eq__ : Fun := ⟨["self", "other"], 2,
(.cons (.ret (.an (.cons (.isi (.var 1) [(.own "Plan")]) (.cons (.cmp .Eq (.mth (.var 0) "parts" .nil) (.mth (.var 1) "parts" .nil)) .nil))))
 .nil), .keep⟩

def c_check_table : Fun := ⟨["table", "wrong"], 1,
(.cons (.ife (.orr (.cons (.nt (.tv (.isi (.var 0) [(.blt "tuple")]))) (.one (.e (.cmp .Eq (.var 0) (.tup .nil))))))
 (.cons (.rse "" .nil)
 .nil)
 .nil)
 (.cons (.asg (.nm 1) (.call "wrong_one" (.cons (.var 0) (.cons (.con (.int 4)) (.cons (.con (.fn "is_column")) .nil))) []))
 (.cons (.ife (.e (.cmp .IsNot (.var 1) (.con .non)))
 (.cons (.rse "" .nil)
 .nil)
 .nil)
 .nil))), .keep⟩

def c_check_rules : Fun := ⟨["rules", "columns", "wrong"], 2,
(.cons (.ife (.nt (.tv (.isi (.var 0) [(.blt "tuple")])))
 (.cons (.rse "" .nil)
 .nil)
 .nil)
 (.cons (.asg (.nm 2) (.calll "wrong_one" (.cons (.var 0) (.cons (.con (.int 3)) .nil)) (.call "is_rule" (.cons (.var 0) (.cons (.var 1) (.cons (.var 2) .nil))) []) 5 2 [1]))
 (.cons (.ife (.e (.cmp .IsNot (.var 2) (.con .non)))
 (.cons (.rse "" .nil)
 .nil)
 .nil)
 .nil))), .keep⟩

def c_check_writers : Fun := ⟨["writers", "wrong"], 1,
(.cons (.ife (.nt (.tv (.isi (.var 0) [(.blt "tuple")])))
 (.cons (.rse "" .nil)
 .nil)
 .nil)
 (.cons (.asg (.nm 1) (.call "wrong_one" (.cons (.var 0) (.cons (.con (.int 4)) (.cons (.con (.fn "is_writer")) .nil))) []))
 (.cons (.ife (.e (.cmp .IsNot (.var 1) (.con .non)))
 (.cons (.rse "" .nil)
 .nil)
 .nil)
 .nil))), .keep⟩

def c_check_active : Fun := ⟨["active", "writers", "columns", "wrong"], 3,
(.cons (.ife (.nt (.tv (.isi (.var 0) [(.blt "tuple")])))
 (.cons (.rse "" .nil)
 .nil)
 .nil)
 (.cons (.asg (.nm 3) (.calll "wrong_one" (.cons (.var 0) (.cons (.con (.int 4)) .nil)) (.call "can_begin" (.cons (.var 0) (.cons (.var 1) (.cons (.var 3) (.cons (.var 2) .nil)))) []) 6 2 [2, 1]))
 (.cons (.ife (.e (.cmp .IsNot (.var 3) (.con .non)))
 (.cons (.rse "" .nil)
 .nil)
 .nil)
 .nil))), .keep⟩

def c__law_bag : Fun := ⟨["script", "k", "held_cell", "seed", "this", "held_signs"], 2,
(.cons (.par [2, 3] (.cons (.ite (.e (.cmp .Lt (.var 1) (.blt .len (.cons (.var 0) .nil)))) (.blt .int (.cons (.idx (.var 0) (.var 1)) .nil)) (.con (.int 0))) (.cons (.bin .Mult (.con (.int 80021)) (.bin .Add (.var 1) (.con (.int 5)))) .nil)))
 (.cons (.for (.nm 4) (.seq (.slc (.var 0) .none (.some (.con (.int 7)))))
 (.cons (.asg (.nm 3) (.bin .Mod (.blt .int (.cons (.bin .Add (.bin .Add (.bin .Mult (.var 3) (.con (.int 41647))) (.bin .Mod (.blt .int (.cons (.var 4) .nil)) (.con (.int 1000121)))) (.bin .Mult (.con (.int 17)) (.var 1))) .nil)) (.con (.int 2147483549))))
 .nil))
 (.cons (.asg (.nm 5) (.ite (.orr (.cons (.e (.cmp .Lt (.var 2) (.con (.int 0)))) (.one (.e (.cmp .GtE (.var 2) (.bin .Pow (.con (.int 10)) (.con (.int 15)))))))) (.blt .abs (.cons (.var 2) .nil)) (.con (.int 0))))
 (.cons (.ret (.lst (.cons (.var 5) (.cons (.bin .Mod (.blt .int (.cons (.bin .Add (.var 3) (.bin .Mult (.con (.int 93001)) (.bin .Mod (.blt .int (.cons (.var 2) .nil)) (.con (.int 999931))))) .nil)) (.con (.int 2147483549))) (.cons (.con (.int 0)) .nil))) true))
 .nil)))), .keep⟩

def c__law_draw : Fun := ⟨["bag", "wide", "figure", "held", "times"], 2,
(.cons (.seti (.var 0) (.con (.int 2)) (.bin .Add (.idx (.var 0) (.con (.int 2))) (.con (.int 1))))
 (.cons (.ife (.e (.cmp .Gt (.idx (.var 0) (.con (.int 0))) (.con (.int 0))))
 (.cons (.asg (.nm 2) (.bin .Mod (.blt .int (.cons (.idx (.var 0) (.con (.int 0))) .nil)) (.var 1)))
 (.cons (.seti (.var 0) (.con (.int 0)) (.bin .FloorDiv (.idx (.var 0) (.con (.int 0))) (.var 1)))
 (.cons (.ret (.var 2))
 .nil)))
 .nil)
 (.cons (.asg (.nm 3) (.bin .Add (.blt .int (.cons (.idx (.var 0) (.con (.int 1))) .nil)) (.bin .Mult (.con (.int 64007)) (.idx (.var 0) (.con (.int 2))))))
 (.cons (.asg (.nm 4) (.bin .Add (.bin .Mod (.blt .int (.cons (.var 3) .nil)) (.con (.int 54001))) (.con (.int 43003))))
 (.cons (.seti (.var 0) (.con (.int 1)) (.bin .Mod (.blt .int (.cons (.bin .Add (.bin .Add (.bin .Mult (.var 3) (.var 4)) (.bin .Mult (.con (.int 11)) (.idx (.var 0) (.con (.int 2))))) (.con (.int 19))) .nil)) (.con (.int 2147483549))))
 (.cons (.ret (.bin .Mod (.bin .FloorDiv (.blt .int (.cons (.idx (.var 0) (.con (.int 1))) .nil)) (.con (.int 509))) (.var 1)))
 .nil)))))), .keep⟩

def c__law_one : Fun := ⟨["bag", "some"], 2,
(.cons (.ret (.idx (.var 1) (.call "_law_draw" (.cons (.var 0) (.cons (.blt .len (.cons (.var 1) .nil)) .nil)) [])))
 .nil), .keep⟩

def c__law_integer : Fun := ⟨["bag"], 1,
(.cons (.ret (.call "_law_one" (.cons (.var 0) (.cons (.lst (.cons (.con (.int 0)) (.cons (.con (.int 1)) (.cons (.con (.int 2)) (.cons (.con (.int 3)) (.cons (.con (.int 1)) (.cons (.con (.int 2)) .nil)))))) false) .nil)) []))
 .nil), .keep⟩

def c__law_plain : Fun := ⟨["bag", "heads", "way", "column"], 2,
(.cons (.par [2, 3] (.cons (.call "_law_draw" (.cons (.var 0) (.cons (.con (.int 7)) .nil)) []) (.cons (.call "_law_one" (.cons (.var 0) (.cons (.var 1) .nil)) []) .nil)))
 (.cons (.ife (.e (.cmp .Eq (.var 2) (.con (.int 0))))
 (.cons (.ret (.tup (.cons (.con (.str "true")) .nil)))
 .nil)
 .nil)
 (.cons (.ife (.e (.cmp .Eq (.var 2) (.con (.int 1))))
 (.cons (.ret (.tup (.cons (.con (.str "empty")) (.cons (.var 3) .nil))))
 .nil)
 .nil)
 (.cons (.ret (.tup (.cons (.con (.str "compare")) (.cons (.var 3) (.cons (.call "_law_one" (.cons (.var 0) (.cons (.lst (.cons (.con (.str "=")) (.cons (.con (.str "<>")) (.cons (.con (.str "<")) (.cons (.con (.str "<=")) (.cons (.con (.str ">")) (.cons (.con (.str ">=")) .nil)))))) false) .nil)) []) (.cons (.call "_law_integer" (.cons (.var 0) .nil) []) .nil))))))
 .nil)))), .keep⟩

def c__law_test : Fun := ⟨["bag", "heads", "most", "deep", "here", "near"], 4,
(.cons (.ife (.orr (.cons (.e (.cmp .Eq (.var 3) (.con (.int 1)))) (.cons (.e (.cmp .Eq (.var 2) (.con (.int 1)))) (.one (.e (.cmp .Eq (.call "_law_draw" (.cons (.var 0) (.cons (.con (.int 3)) .nil)) []) (.con (.int 0))))))))
 (.cons (.ret (.call "_law_plain" (.cons (.var 0) (.cons (.var 1) .nil)) []))
 .nil)
 .nil)
 (.cons (.ife (.e (.cmp .Eq (.call "_law_draw" (.cons (.var 0) (.cons (.con (.int 4)) .nil)) []) (.con (.int 0))))
 (.cons (.ret (.tup (.cons (.con (.str "not")) (.cons (.call "_law_test" (.cons (.var 0) (.cons (.var 1) (.cons (.var 2) (.cons (.bin .Sub (.var 3) (.con (.int 1))) .nil)))) []) .nil))))
 .nil)
 .nil)
 (.cons (.asg (.nm 4) (.bin .Add (.con (.int 1)) (.call "_law_draw" (.cons (.var 0) (.cons (.bin .Sub (.var 2) (.con (.int 1))) .nil)) [])))
 (.cons (.asg (.nm 5) (.call "_law_test" (.cons (.var 0) (.cons (.var 1) (.cons (.var 4) (.cons (.bin .Sub (.var 3) (.con (.int 1))) .nil)))) []))
 (.cons (.ret (.tup (.cons (.call "_law_one" (.cons (.var 0) (.cons (.lst (.cons (.con (.str "and")) (.cons (.con (.str "or")) .nil)) false) .nil)) []) (.cons (.var 5) (.cons (.call "_law_test" (.cons (.var 0) (.cons (.var 1) (.cons (.bin .Sub (.var 2) (.var 4)) (.cons (.bin .Sub (.var 3) (.con (.int 1))) .nil)))) []) .nil)))))
 .nil))))), .keep⟩

def c__law_kind : Fun := ⟨["bag", "heads", "way", "free", "pairs_here", "k", "source", "last_test"], 2,
(.cons (.par [2, 3, 4] (.cons (.call "_law_draw" (.cons (.var 0) (.cons (.con (.int 6)) .nil)) []) (.cons (.lsm (.var 1)) (.cons (.lst .nil true) .nil))))
 (.cons (.ife (.e (.cmp .Eq (.var 2) (.con (.int 0))))
 (.cons (.ret (.tup (.cons (.con (.str "delete")) (.cons (.call "_law_test" (.cons (.var 0) (.cons (.var 1) (.cons (.con (.int 2)) (.cons (.con (.int 3)) .nil)))) []) .nil))))
 .nil)
 .nil)
 (.cons (.for (.nm 5) (.rng (.ite (.e (.cmp .Lt (.var 2) (.con (.int 3)))) (.call "_law_draw" (.cons (.var 0) (.cons (.bin .Add (.blt .len (.cons (.var 3) .nil)) (.con (.int 1))) .nil)) []) (.bin .Add (.con (.int 1)) (.call "_law_draw" (.cons (.var 0) (.cons (.blt .len (.cons (.var 3) .nil)) .nil)) []))))
 (.cons (.asg (.nm 6) (.call "_law_one" (.cons (.var 0) (.cons (.lst (.cons (.con (.str "any")) (.cons (.con (.str "any")) (.cons (.con .non) (.cons (.call "_law_integer" (.cons (.var 0) .nil) []) (.cons (.call "_law_integer" (.cons (.var 0) .nil) []) .nil))))) false) .nil)) []))
 (.cons (.expr (.app (.var 4) (.tup (.cons (.popi (.var 3) (.call "_law_draw" (.cons (.var 0) (.cons (.blt .len (.cons (.var 3) .nil)) .nil)) [])) (.cons (.var 6) .nil)))))
 .nil)))
 (.cons (.asg (.nm 7) (.call "_law_one" (.cons (.var 0) (.cons (.lst (.cons (.tup (.cons (.con (.str "true")) .nil)) (.cons (.call "_law_test" (.cons (.var 0) (.cons (.var 1) (.cons (.con (.int 2)) (.cons (.con (.int 3)) .nil)))) []) .nil)) false) .nil)) []))
 (.cons (.ife (.e (.cmp .Lt (.var 2) (.con (.int 3))))
 (.cons (.ret (.tup (.cons (.con (.str "insert")) (.cons (.blt .tuple (.cons (.var 4) .nil)) (.cons (.var 7) .nil)))))
 .nil)
 .nil)
 (.cons (.ret (.tup (.cons (.con (.str "update")) (.cons (.blt .tuple (.cons (.var 4) .nil)) (.cons (.call "_law_test" (.cons (.var 0) (.cons (.var 1) (.cons (.con (.int 2)) (.cons (.con (.int 3)) .nil)))) []) (.cons (.var 7) .nil))))))
 .nil)))))), .trunc⟩

def c__law_drawn_step : Fun := ⟨["bag", "parts", "stand", "heads", "rules_here", "active_here", "way", "all_names", "fresh", "name", "column", "pair"], 3,
(.cons (.par [3, 4, 5] (.cons (.comp (.idx (.var 11) (.con (.int 0))) (.nm 11) (.seq (.idx (.var 2) (.con (.int 0)))) .none [11] false) (.cons (.comp (.idx (.var 11) (.con (.int 0))) (.nm 11) (.seq (.idx (.var 2) (.con (.int 1)))) .none [11] false) (.cons (.idx (.var 2) (.con (.int 2))) .nil))))
 (.cons (.par [6, 7] (.cons (.call "_law_draw" (.cons (.var 0) (.cons (.con (.int 12)) .nil)) []) (.cons (.comp (.idx (.var 11) (.con (.int 0))) (.nm 11) (.seq (.idx (.var 1) (.con (.int 2)))) .none [11] false) .nil)))
 (.cons (.asg (.nm 8) (.call "_law_one" (.cons (.var 0) (.cons (.lst (.cons (.con (.str "ra")) (.cons (.con (.str "rb")) (.cons (.con (.str "rc")) (.cons (.con (.str "rd")) (.cons (.con (.str "low")) (.cons (.con (.str "big")) .nil)))))) false) .nil)) []))
 (.cons (.ife (.e (.cmp .Lt (.var 6) (.con (.int 2))))
 (.cons (.ret (.tup (.cons (.con (.str "add")) (.cons (.var 8) (.cons (.call "_law_test" (.cons (.var 0) (.cons (.var 3) (.cons (.con (.int 2)) (.cons (.con (.int 3)) .nil)))) []) .nil)))))
 .nil)
 .nil)
 (.cons (.ife (.an (.cons (.e (.cmp .Lt (.var 6) (.con (.int 5)))) (.one (.e (.cmp .NotEq (.var 4) (.lst .nil false))))))
 (.cons (.ret (.tup (.cons (.call "_law_one" (.cons (.var 0) (.cons (.lst (.cons (.con (.str "look")) (.cons (.con (.str "look")) (.cons (.con (.str "drop")) .nil))) false) .nil)) []) (.cons (.call "_law_one" (.cons (.var 0) (.cons (.var 4) .nil)) []) .nil))))
 .nil)
 .nil)
 (.cons (.ife (.an (.cons (.e (.cmp .Lt (.var 6) (.con (.int 7)))) (.one (.e (.cmp .NotEq (.var 7) (.lst .nil false))))))
 (.cons (.asg (.nm 9) (.call "_law_one" (.cons (.var 0) (.cons (.var 7) .nil)) []))
 (.cons (.ret (.tup (.cons (.ite (.e (.cmp .In (.var 9) (.var 5))) (.con (.str "end")) (.con (.str "begin"))) (.cons (.var 9) .nil))))
 .nil))
 .nil)
 (.cons (.ife (.e (.cmp .Eq (.var 6) (.con (.int 7))))
 (.cons (.ret (.tup (.cons (.con (.str "default")) (.cons (.call "_law_one" (.cons (.var 0) (.cons (.var 3) .nil)) []) (.cons (.call "_law_one" (.cons (.var 0) (.cons (.lst (.cons (.con .non) (.cons (.call "_law_integer" (.cons (.var 0) .nil) []) .nil)) false) .nil)) []) .nil)))))
 .nil)
 .nil)
 (.cons (.ife (.an (.cons (.e (.cmp .Eq (.var 6) (.con (.int 8)))) (.one (.e (.cmp .Lt (.blt .len (.cons (.var 3) .nil)) (.blt .max (.cons (.con (.int 2)) (.cons (.blt .len (.cons (.idx (.var 1) (.con (.int 0))) .nil)) .nil))))))))
 (.cons (.ret (.tup (.cons (.con (.str "column")) (.cons (.call "_law_one" (.cons (.var 0) (.cons (.lst (.cons (.con (.str "c")) (.cons (.con (.str "d")) (.cons (.con (.str "a")) .nil))) false) .nil)) []) (.cons (.call "_law_one" (.cons (.var 0) (.cons (.lst (.cons (.con .non) (.cons (.call "_law_integer" (.cons (.var 0) .nil) []) .nil)) false) .nil)) []) .nil)))))
 .nil)
 .nil)
 (.cons (.ife (.e (.cmp .Eq (.var 6) (.con (.int 9))))
 (.cons (.ret (.tup (.cons (.con (.str "remove")) (.cons (.call "_law_one" (.cons (.var 0) (.cons (.var 3) .nil)) []) .nil))))
 .nil)
 .nil)
 (.cons (.asg (.nm 10) (.call "_law_one" (.cons (.var 0) (.cons (.var 3) .nil)) []))
 (.cons (.ret (.tup (.cons (.con (.str "fill")) (.cons (.tup (.cons (.tup (.cons (.var 10) (.cons (.call "_law_one" (.cons (.var 0) (.cons (.lst (.cons (.con .non) (.cons (.call "_law_integer" (.cons (.var 0) .nil) []) .nil)) false) .nil)) []) .nil))) .nil)) (.cons (.call "_law_test" (.cons (.var 0) (.cons (.var 3) (.cons (.con (.int 2)) (.cons (.con (.int 3)) .nil)))) []) .nil)))))
 .nil))))))))))), .keep⟩

def c__law_plan : Fun := ⟨["bag", "wide", "most", "heads", "table_here", "rules_here", "some", "k", "active_here", "parts", "step", "column", "pair"], 3,
(.cons (.asg (.nm 3) (.slc (.lst (.cons (.con (.str "a")) (.cons (.con (.str "b")) (.cons (.con (.str "ab")) (.cons (.con (.str "z")) .nil)))) false) .none (.some (.bin .Add (.con (.int 1)) (.call "_law_draw" (.cons (.var 0) (.cons (.var 1) .nil)) [])))))
 (.cons (.asg (.nm 4) (.blt .tuple (.cons (.comp (.tup (.cons (.var 11) (.cons (.call "_law_one" (.cons (.var 0) (.cons (.lst (.cons (.con .non) (.cons (.con (.int 0)) (.cons (.con (.int 1)) (.cons (.call "_law_integer" (.cons (.var 0) .nil) []) .nil)))) false) .nil)) []) .nil))) (.nm 11) (.seq (.var 3)) .none [11] false) .nil)))
 (.cons (.asg (.nm 5) (.blt .tuple (.cons (.comp (.tup (.cons (.bin .Add (.con (.str "r")) (.idx (.con (.str "xyz")) (.var 7))) (.cons (.call "_law_test" (.cons (.var 0) (.cons (.var 3) (.cons (.con (.int 2)) (.cons (.con (.int 3)) .nil)))) []) .nil))) (.nm 7) (.rng (.call "_law_draw" (.cons (.var 0) (.cons (.con (.int 3)) .nil)) [])) .none [7] false) .nil)))
 (.cons (.asg (.nm 6) (.lst .nil true))
 (.cons (.for (.nm 7) (.rng (.call "_law_draw" (.cons (.var 0) (.cons (.con (.int 4)) .nil)) []))
 (.cons (.expr (.app (.var 6) (.tup (.cons (.bin .Add (.call "_law_one" (.cons (.var 0) (.cons (.lst (.cons (.con (.str "w")) (.cons (.con (.str "u")) (.cons (.con (.str "put")) .nil))) false) .nil)) []) (.idx (.con (.str "pqr")) (.var 7))) (.cons (.call "_law_kind" (.cons (.var 0) (.cons (.var 3) .nil)) []) .nil)))))
 .nil))
 (.cons (.asg (.nm 8) (.blt .tuple (.cons (.comp (.idx (.var 12) (.con (.int 0))) (.nm 12) (.seq (.var 6)) (.some (.e (.cmp .Gt (.call "_law_draw" (.cons (.var 0) (.cons (.con (.int 3)) .nil)) []) (.con (.int 0))))) [12] false) .nil)))
 (.cons (.asg (.nm 9) (.lst (.cons (.var 4) (.cons (.var 5) (.cons (.blt .tuple (.cons (.var 6) .nil)) (.cons (.var 8) (.cons (.tup .nil) .nil))))) true))
 (.cons (.for (.nm 7) (.rng (.call "_law_draw" (.cons (.var 0) (.cons (.bin .Add (.var 2) (.con (.int 1))) .nil)) []))
 (.cons (.asg (.nm 10) (.call "_law_drawn_step" (.cons (.var 0) (.cons (.var 9) (.cons (.idx (.call "_law_stands" (.cons (.var 9) .nil) []) (.neg (.con (.int 1)))) .nil))) []))
 (.cons (.ife (.e (.cmp .IsNot (.call "_law_after" (.cons (.var 9) (.cons (.idx (.call "_law_stands" (.cons (.var 9) .nil) []) (.neg (.con (.int 1)))) (.cons (.var 10) .nil))) []) (.con .non)))
 (.cons (.seti (.var 9) (.con (.int 4)) (.bin .Add (.idx (.var 9) (.con (.int 4))) (.tup (.cons (.var 10) .nil))))
 .nil)
 .nil)
 .nil)))
 (.cons (.ret (.var 9))
 .nil))))))))), .trunc⟩

def c__law_columns_in : Fun := ⟨["shape", "found", "part"], 1,
(.cons (.ife (.e (.cmp .In (.idx (.var 0) (.con (.int 0))) (.lst (.cons (.con (.str "compare")) (.cons (.con (.str "empty")) .nil)) false)))
 (.cons (.ret (.lst (.cons (.idx (.var 0) (.con (.int 1))) .nil) false))
 .nil)
 .nil)
 (.cons (.asg (.nm 1) (.lst .nil false))
 (.cons (.for (.nm 2) (.seq (.ite (.e (.cmp .In (.idx (.var 0) (.con (.int 0))) (.lst (.cons (.con (.str "and")) (.cons (.con (.str "or")) (.cons (.con (.str "not")) .nil))) false))) (.slc (.var 0) (.some (.con (.int 1))) .none) (.tup .nil)))
 (.cons (.asg (.nm 1) (.bin .Add (.var 1) (.call "_law_columns_in" (.cons (.var 2) .nil) [])))
 .nil))
 (.cons (.ret (.var 1))
 .nil)))), .keep⟩

def c__law_mentioned : Fun := ⟨["kind_here", "found", "shape", "pair"], 1,
(.cons (.asg (.nm 1) (.ite (.e (.cmp .NotEq (.idx (.var 0) (.con (.int 0))) (.con (.str "delete")))) (.comp (.idx (.var 3) (.con (.int 0))) (.nm 3) (.seq (.idx (.var 0) (.con (.int 1)))) .none [3] false) (.lst .nil false)))
 (.cons (.for (.nm 2) (.seq (.ite (.e (.cmp .Eq (.idx (.var 0) (.con (.int 0))) (.con (.str "delete")))) (.slc (.var 0) (.some (.con (.int 1))) .none) (.slc (.var 0) (.some (.con (.int 2))) .none)))
 (.cons (.asg (.nm 1) (.bin .Add (.var 1) (.call "_law_columns_in" (.cons (.var 2) .nil) [])))
 .nil))
 (.cons (.ret (.var 1))
 .nil))), .keep⟩

def c__law_after : Fun := ⟨["parts", "stand", "step", "columns_here", "rules_here", "active_here", "heads", "ruled", "kinds_here", "word", "name", "rest", "some", "fine", "used", "each", "pair", "column", "old"], 3,
(.cons (.asg (.tp [3, 4, 5]) (.var 1))
 (.cons (.asg (.tp [6, 7, 8]) (.tup (.cons (.comp (.idx (.var 16) (.con (.int 0))) (.nm 16) (.seq (.var 3)) .none [16] false) (.cons (.comp (.idx (.var 16) (.con (.int 0))) (.nm 16) (.seq (.var 4)) .none [16] false) (.cons (.blt .dict (.cons (.idx (.var 0) (.con (.int 2))) .nil)) .nil)))))
 (.cons (.asg (.tp [9, 10]) (.tup (.cons (.idx (.var 2) (.con (.int 0))) (.cons (.idx (.var 2) (.con (.int 1))) .nil))))
 (.cons (.ife (.e (.cmp .Eq (.var 9) (.con (.str "add"))))
 (.cons (.ife (.orr (.cons (.e (.cmp .In (.var 10) (.var 7))) (.one (.e (.cmp .Eq (.blt .len (.cons (.var 7) .nil)) (.con (.int 4)))))))
 (.cons (.ret (.con .non))
 .nil)
 .nil)
 (.cons (.ret (.lst (.cons (.var 3) (.cons (.bin .Add (.var 4) (.lst (.cons (.tup (.cons (.var 10) (.cons (.idx (.var 2) (.con (.int 2))) .nil))) .nil) false)) (.cons (.var 5) .nil))) false))
 .nil))
 .nil)
 (.cons (.ife (.e (.cmp .In (.var 9) (.lst (.cons (.con (.str "look")) (.cons (.con (.str "drop")) .nil)) false)))
 (.cons (.asg (.nm 11) (.ite (.e (.cmp .Eq (.var 9) (.con (.str "look")))) (.var 4) (.comp (.var 16) (.nm 16) (.seq (.var 4)) (.some (.e (.cmp .NotEq (.idx (.var 16) (.con (.int 0))) (.var 10)))) [16] false)))
 (.cons (.ret (.ite (.e (.cmp .In (.var 10) (.var 7))) (.lst (.cons (.var 3) (.cons (.var 11) (.cons (.var 5) .nil))) false) (.con .non)))
 .nil))
 .nil)
 (.cons (.ife (.e (.cmp .Eq (.var 9) (.con (.str "end"))))
 (.cons (.ret (.lst (.cons (.var 3) (.cons (.var 4) (.cons (.comp (.var 15) (.nm 15) (.seq (.var 5)) (.some (.e (.cmp .NotEq (.var 15) (.var 10)))) [15] false) .nil))) false))
 .nil)
 .nil)
 (.cons (.ife (.e (.cmp .Eq (.var 9) (.con (.str "begin"))))
 (.cons (.ife (.e (.cmp .NotEq (.comp (.var 17) (.nm 17) (.seq (.call "_law_mentioned" (.cons (.idx (.var 8) (.var 10)) .nil) [])) (.some (.e (.cmp .NotIn (.var 17) (.var 6)))) [17] false) (.lst .nil false)))
 (.cons (.ret (.con .non))
 .nil)
 .nil)
 (.cons (.asg (.nm 12) (.bin .Add (.var 5) (.lst (.cons (.var 10) .nil) false)))
 (.cons (.ret (.lst (.cons (.var 3) (.cons (.var 4) (.cons (.comp (.idx (.var 16) (.con (.int 0))) (.nm 16) (.seq (.idx (.var 0) (.con (.int 2)))) (.some (.e (.cmp .In (.idx (.var 16) (.con (.int 0))) (.var 12)))) [16] false) .nil))) false))
 .nil)))
 .nil)
 (.cons (.ife (.e (.cmp .Eq (.var 9) (.con (.str "default"))))
 (.cons (.ret (.lst (.cons (.comp (.tup (.cons (.var 17) (.cons (.ite (.e (.cmp .Eq (.var 17) (.var 10))) (.idx (.var 2) (.con (.int 2))) (.var 18)) .nil))) (.tp [17, 18]) (.seq (.var 3)) .none [17, 18] false) (.cons (.var 4) (.cons (.var 5) .nil))) false))
 .nil)
 .nil)
 (.cons (.ife (.e (.cmp .Eq (.var 9) (.con (.str "column"))))
 (.cons (.asg (.nm 13) (.an (.cons (.cmp .NotIn (.var 10) (.var 6)) (.cons (.cmp .Lt (.blt .len (.cons (.var 6) .nil)) (.con (.int 4))) .nil))))
 (.cons (.ret (.ite (.tv (.var 13)) (.lst (.cons (.bin .Add (.var 3) (.lst (.cons (.tup (.cons (.var 10) (.cons (.idx (.var 2) (.con (.int 2))) .nil))) .nil) false)) (.cons (.var 4) (.cons (.var 5) .nil))) false) (.con .non)))
 .nil))
 .nil)
 (.cons (.ife (.e (.cmp .Eq (.var 9) (.con (.str "remove"))))
 (.cons (.asg (.nm 14) (.lst .nil false))
 (.cons (.for (.nm 15) (.seq (.var 4))
 (.cons (.asg (.nm 14) (.bin .Add (.var 14) (.call "_law_columns_in" (.cons (.idx (.var 15) (.con (.int 1))) .nil) [])))
 .nil))
 (.cons (.for (.nm 15) (.seq (.var 5))
 (.cons (.asg (.nm 14) (.bin .Add (.var 14) (.call "_law_mentioned" (.cons (.idx (.var 8) (.var 15)) .nil) [])))
 .nil))
 (.cons (.asg (.nm 11) (.comp (.var 16) (.nm 16) (.seq (.var 3)) (.some (.e (.cmp .NotEq (.idx (.var 16) (.con (.int 0))) (.var 10)))) [16] false))
 (.cons (.ret (.ite (.an (.cons (.e (.cmp .NotIn (.var 10) (.var 14))) (.one (.e (.cmp .NotEq (.var 11) (.lst .nil false)))))) (.lst (.cons (.var 11) (.cons (.var 4) (.cons (.var 5) .nil))) false) (.con .non)))
 .nil)))))
 .nil)
 (.cons (.ret (.var 1))
 .nil))))))))))), .keep⟩

def c__law_stands : Fun := ⟨["parts", "found", "step", "pair"], 1,
(.cons (.asg (.nm 1) (.lst (.cons (.lst (.cons (.blt .list (.cons (.idx (.var 0) (.con (.int 0))) .nil)) (.cons (.blt .list (.cons (.idx (.var 0) (.con (.int 1))) .nil)) (.cons (.comp (.idx (.var 3) (.con (.int 0))) (.nm 3) (.seq (.idx (.var 0) (.con (.int 2)))) (.some (.e (.cmp .In (.idx (.var 3) (.con (.int 0))) (.idx (.var 0) (.con (.int 3)))))) [3] false) .nil))) false) .nil) true))
 (.cons (.for (.nm 2) (.seq (.idx (.var 0) (.con (.int 4))))
 (.cons (.expr (.app (.var 1) (.call "_law_after" (.cons (.var 0) (.cons (.idx (.var 1) (.neg (.con (.int 1)))) (.cons (.var 2) .nil))) [])))
 .nil))
 (.cons (.ret (.var 1))
 .nil))), .trunc⟩

def c__law_made : Fun := ⟨["parts"], 1,
(.cons (.ret (.mk "Plan" (.cons (.idx (.var 0) (.con (.int 0))) (.cons (.idx (.var 0) (.con (.int 1))) (.cons (.idx (.var 0) (.con (.int 2))) (.cons (.idx (.var 0) (.con (.int 3))) (.cons (.idx (.var 0) (.con (.int 4))) .nil))))) []))
 .nil), .keep⟩

def c__law_heads : Fun := ⟨["stand", "pair"], 1,
(.cons (.ret (.comp (.idx (.var 1) (.con (.int 0))) (.nm 1) (.seq (.idx (.var 0) (.con (.int 0)))) .none [1] false))
 .nil), .keep⟩

def c__law_right : Fun := ⟨["bag", "made", "turn", "parts", "mine", "stands_here", "mate", "told", "moment", "heads", "ruled", "active_here", "pair", "each"], 1,
(.cons (.asg (.nm 1) (.lst .nil true))
 (.cons (.for (.nm 2) (.rng (.con (.int 4)))
 (.cons (.asg (.nm 3) (.call "_law_plan" (.cons (.var 0) (.cons (.con (.int 4)) (.cons (.con (.int 10)) .nil))) []))
 (.cons (.par [4, 5] (.cons (.call "_law_made" (.cons (.var 3) .nil) []) (.cons (.call "_law_stands" (.cons (.var 3) .nil) []) .nil)))
 (.cons (.asg (.nm 6) (.mkk "Plan" .nil (.cons (.idx (.var 3) (.con (.int 4))) (.cons (.idx (.var 3) (.con (.int 3))) (.cons (.idx (.var 3) (.con (.int 2))) (.cons (.idx (.var 3) (.con (.int 1))) (.cons (.idx (.var 3) (.con (.int 0))) .nil))))) ["steps", "active", "writers", "rules", "table"]))
 (.cons (.asg (.nm 7) (.lst (.cons (.att (.var 4) "table") (.cons (.att (.var 4) "rules") (.cons (.att (.var 4) "writers") (.cons (.att (.var 4) "active") (.cons (.att (.var 4) "steps") .nil))))) false))
 (.cons (.ife (.orr (.cons (.e (.cmp .NotEq (.blt .repr (.cons (.var 7) .nil)) (.blt .repr (.cons (.var 3) .nil)))) (.cons (.e (.cmp .NotEq (.var 4) (.var 6))) (.cons (.e (.cmp .NotEq (.blt .len (.cons (.var 4) .nil)) (.blt .len (.cons (.idx (.var 3) (.con (.int 4))) .nil)))) (.one (.e (.cmp .Eq (.var 4) (.var 3))))))))
 (.cons (.ret (.con (.bl false)))
 .nil)
 .nil)
 (.cons (.for (.nm 8) (.rng (.bin .Add (.blt .len (.cons (.idx (.var 3) (.con (.int 4))) .nil)) (.con (.int 1))))
 (.cons (.par [9, 10, 11] (.cons (.lst (.cons (.blt .tuple (.cons (.call "_law_heads" (.cons (.idx (.var 5) (.var 8)) .nil) []) .nil)) .nil) false) (.cons (.lst .nil false) (.cons (.lst .nil false) .nil))))
 (.cons (.asg (.nm 10) (.lst (.cons (.blt .tuple (.cons (.comp (.idx (.var 12) (.con (.int 0))) (.nm 12) (.seq (.idx (.idx (.var 5) (.var 8)) (.con (.int 1)))) .none [12] false) .nil)) .nil) false))
 (.cons (.asg (.nm 11) (.lst (.cons (.blt .tuple (.cons (.idx (.idx (.var 5) (.var 8)) (.con (.int 2))) .nil)) .nil) false))
 (.cons (.ife (.e (.cmp .NotEq (.lst (.cons (.mth (.var 4) "columns" (.cons (.var 8) .nil)) (.cons (.mthk (.var 6) "columns" .nil (.cons (.var 8) .nil) ["moment"]) .nil)) false) (.bin .Mult (.var 9) (.con (.int 2)))))
 (.cons (.ret (.con (.bl false)))
 .nil)
 .nil)
 (.cons (.ife (.e (.cmp .NotEq (.lst (.cons (.mth (.var 4) "in_force" (.cons (.var 8) .nil)) (.cons (.mthk (.var 6) "in_force" .nil (.cons (.var 8) .nil) ["moment"]) .nil)) false) (.bin .Mult (.var 10) (.con (.int 2)))))
 (.cons (.ret (.con (.bl false)))
 .nil)
 .nil)
 (.cons (.ife (.e (.cmp .NotEq (.lst (.cons (.mth (.var 4) "active_at" (.cons (.var 8) .nil)) (.cons (.mthk (.var 6) "active_at" .nil (.cons (.var 8) .nil) ["moment"]) .nil)) false) (.bin .Mult (.var 11) (.con (.int 2)))))
 (.cons (.ret (.con (.bl false)))
 .nil)
 .nil)
 .nil)))))))
 (.cons (.expr (.app (.var 1) (.tup (.cons (.var 4) (.cons (.var 3) .nil)))))
 .nil))))))))
 (.cons (.ret (.cmp .Eq (.comp (.var 13) (.nm 13) (.seq (.var 1)) (.some (.e (.cmp .NotEq (.cmp .Eq (.idx (.var 13) (.con (.int 0))) (.idx (.idx (.var 1) (.con (.int 0))) (.con (.int 0)))) (.cmp .Eq (.idx (.var 13) (.con (.int 1))) (.idx (.idx (.var 1) (.con (.int 0))) (.con (.int 1))))))) [13] false) (.lst .nil false)))
 .nil))), .trunc⟩

def c_law : Fun := ⟨["script", "mine", "k"], 1,
(.cons (.asg (.nm 1) (.mk "Plan" (.cons (.tup (.cons (.tup (.cons (.con (.str "a")) (.cons (.con (.int 0)) .nil))) (.cons (.tup (.cons (.con (.str "b")) (.cons (.con .non) .nil))) .nil))) .nil) [(.tup []), (.tup []), (.tup []), (.tup [])]))
 (.cons (.ife (.e (.cmp .NotEq (.lst (.cons (.att (.var 1) "rules") (.cons (.att (.var 1) "writers") (.cons (.att (.var 1) "active") (.cons (.att (.var 1) "steps") (.cons (.blt .len (.cons (.var 1) .nil)) (.cons (.mth (.var 1) "columns" (.cons (.con (.int 0)) .nil)) .nil)))))) false) (.lst (.cons (.tup .nil) (.cons (.tup .nil) (.cons (.tup .nil) (.cons (.tup .nil) (.cons (.con (.int 0)) (.cons (.tup (.cons (.con (.str "a")) (.cons (.con (.str "b")) .nil))) .nil)))))) false)))
 (.cons (.ret (.con (.bl false)))
 .nil)
 .nil)
 (.cons (.ife (.orr (.cons (.tv (.var 1)) (.one (.e (.cmp .NotEq (.var 1) (.mk "Plan" (.cons (.tup (.cons (.tup (.cons (.con (.str "a")) (.cons (.con (.int 0)) .nil))) (.cons (.tup (.cons (.con (.str "b")) (.cons (.con .non) .nil))) .nil))) (.cons (.tup .nil) (.cons (.tup .nil) (.cons (.tup .nil) (.cons (.tup .nil) .nil))))) []))))))
 (.cons (.ret (.con (.bl false)))
 .nil)
 .nil)
 (.cons (.ret (.blt .all (.cons (.comp (.call "_law_right" (.cons (.call "_law_bag" (.cons (.var 0) (.cons (.var 2) .nil)) []) .nil) []) (.nm 2) (.rng (.blt .max (.cons (.con (.int 2)) (.cons (.blt .min (.cons (.blt .len (.cons (.var 0) .nil)) (.cons (.con (.int 5)) .nil))) .nil)))) .none [2] false) .nil)))
 .nil)))), .keep⟩


theorem f_is_integer : P.fun? "is_integer" = some c_is_integer := by kernel_rfl
theorem f_is_between : P.fun? "is_between" = some c_is_between := by kernel_rfl
theorem f_is_constant : P.fun? "is_constant" = some c_is_constant := by kernel_rfl
theorem f_is_name : P.fun? "is_name" = some c_is_name := by kernel_rfl
theorem f_are_unlike : P.fun? "are_unlike" = some c_are_unlike := by kernel_rfl
theorem f_is_plain : P.fun? "is_plain" = some c_is_plain := by kernel_rfl
theorem f_many_plain : P.fun? "many_plain" = some c_many_plain := by kernel_rfl
theorem f_is_test : P.fun? "is_test" = some c_is_test := by kernel_rfl
theorem f_columns_in : P.fun? "columns_in" = some c_columns_in := by kernel_rfl
theorem f_are_pairs : P.fun? "are_pairs" = some c_are_pairs := by kernel_rfl
theorem f_AnyNames___contains__ : P.fun? "AnyNames.__contains__" = some c_AnyNames___contains__ := by kernel_rfl
theorem f_is_free_test : P.fun? "is_free_test" = some c_is_free_test := by kernel_rfl
theorem f_is_kind : P.fun? "is_kind" = some c_is_kind := by kernel_rfl
theorem f_mentioned : P.fun? "mentioned" = some c_mentioned := by kernel_rfl
theorem f_Stand___init__ : P.fun? "Stand.__init__" = some c_Stand___init__ := by kernel_rfl
theorem f_Stand_heads : P.fun? "Stand.heads" = some c_Stand_heads := by kernel_rfl
theorem f_Stand_forced : P.fun? "Stand.forced" = some c_Stand_forced := by kernel_rfl
theorem f_Stand_has_all : P.fun? "Stand.has_all" = some c_Stand_has_all := by kernel_rfl
theorem f_is_shaped : P.fun? "is_shaped" = some c_is_shaped := by kernel_rfl
theorem f_after_rule : P.fun? "after_rule" = some c_after_rule := by kernel_rfl
theorem f_after_writer : P.fun? "after_writer" = some c_after_writer := by kernel_rfl
theorem f_after_column : P.fun? "after_column" = some c_after_column := by kernel_rfl
theorem f_after : P.fun? "after" = some c_after := by kernel_rfl
theorem f_is_pair : P.fun? "is_pair" = some c_is_pair := by kernel_rfl
theorem f_wrong_one : P.fun? "wrong_one" = some c_wrong_one := by kernel_rfl
theorem f_is_column : P.fun? "is_column" = some c_is_column := by kernel_rfl
theorem f_is_rule : P.fun? "is_rule" = some c_is_rule := by kernel_rfl
theorem f_is_writer : P.fun? "is_writer" = some c_is_writer := by kernel_rfl
theorem f_can_begin : P.fun? "can_begin" = some c_can_begin := by kernel_rfl
theorem f_stands_of : P.fun? "stands_of" = some c_stands_of := by kernel_rfl
theorem f_Plan___init__ : P.fun? "Plan.__init__" = some c_Plan___init__ := by kernel_rfl
theorem f_Plan___len__ : P.fun? "Plan.__len__" = some c_Plan___len__ := by kernel_rfl
theorem f_Plan_stand : P.fun? "Plan.stand" = some c_Plan_stand := by kernel_rfl
theorem f_Plan_columns : P.fun? "Plan.columns" = some c_Plan_columns := by kernel_rfl
theorem f_Plan_in_force : P.fun? "Plan.in_force" = some c_Plan_in_force := by kernel_rfl
theorem f_Plan_active_at : P.fun? "Plan.active_at" = some c_Plan_active_at := by kernel_rfl
theorem f_Plan_parts : P.fun? "Plan.parts" = some c_Plan_parts := by kernel_rfl
theorem f_Plan___eq__ : P.fun? "Plan.__eq__" = some c_Plan___eq__ := by kernel_rfl
theorem f_check_table : P.fun? "check_table" = some c_check_table := by kernel_rfl
theorem f_check_rules : P.fun? "check_rules" = some c_check_rules := by kernel_rfl
theorem f_check_writers : P.fun? "check_writers" = some c_check_writers := by kernel_rfl
theorem f_check_active : P.fun? "check_active" = some c_check_active := by kernel_rfl
theorem f__law_bag : P.fun? "_law_bag" = some c__law_bag := by kernel_rfl
theorem f__law_draw : P.fun? "_law_draw" = some c__law_draw := by kernel_rfl
theorem f__law_one : P.fun? "_law_one" = some c__law_one := by kernel_rfl
theorem f__law_integer : P.fun? "_law_integer" = some c__law_integer := by kernel_rfl
theorem f__law_plain : P.fun? "_law_plain" = some c__law_plain := by kernel_rfl
theorem f__law_test : P.fun? "_law_test" = some c__law_test := by kernel_rfl
theorem f__law_kind : P.fun? "_law_kind" = some c__law_kind := by kernel_rfl
theorem f__law_drawn_step : P.fun? "_law_drawn_step" = some c__law_drawn_step := by kernel_rfl
theorem f__law_plan : P.fun? "_law_plan" = some c__law_plan := by kernel_rfl
theorem f__law_columns_in : P.fun? "_law_columns_in" = some c__law_columns_in := by kernel_rfl
theorem f__law_mentioned : P.fun? "_law_mentioned" = some c__law_mentioned := by kernel_rfl
theorem f__law_after : P.fun? "_law_after" = some c__law_after := by kernel_rfl
theorem f__law_stands : P.fun? "_law_stands" = some c__law_stands := by kernel_rfl
theorem f__law_made : P.fun? "_law_made" = some c__law_made := by kernel_rfl
theorem f__law_heads : P.fun? "_law_heads" = some c__law_heads := by kernel_rfl
theorem f__law_right : P.fun? "_law_right" = some c__law_right := by kernel_rfl
theorem f_law : P.fun? "law" = some c_law := by kernel_rfl
theorem p_AnyNames___contains__ : P.meth "AnyNames" "__contains__" = some "AnyNames.__contains__" := by kernel_rfl
theorem p_Stand___init__ : P.meth "Stand" "__init__" = some "Stand.__init__" := by kernel_rfl
theorem p_Stand_heads : P.prop "Stand" "heads" = some "Stand.heads" := by kernel_rfl
theorem p_Stand_forced : P.prop "Stand" "forced" = some "Stand.forced" := by kernel_rfl
theorem p_Stand_has_all : P.meth "Stand" "has_all" = some "Stand.has_all" := by kernel_rfl
theorem p_Plan___init__ : P.meth "Plan" "__init__" = some "Plan.__init__" := by kernel_rfl
theorem p_Plan___len__ : P.meth "Plan" "__len__" = some "Plan.__len__" := by kernel_rfl
theorem p_Plan_stand : P.meth "Plan" "stand" = some "Plan.stand" := by kernel_rfl
theorem p_Plan_columns : P.meth "Plan" "columns" = some "Plan.columns" := by kernel_rfl
theorem p_Plan_in_force : P.meth "Plan" "in_force" = some "Plan.in_force" := by kernel_rfl
theorem p_Plan_active_at : P.meth "Plan" "active_at" = some "Plan.active_at" := by kernel_rfl
theorem p_Plan_parts : P.meth "Plan" "parts" = some "Plan.parts" := by kernel_rfl
theorem p_Plan___eq__ : P.meth "Plan" "__eq__" = some "Plan.__eq__" := by kernel_rfl
end Hk01
end
section
set_option maxRecDepth 100000
set_option maxHeartbeats 1000000
namespace Hk01
open PySem MP
theorem s_is_integer_int (n : Nat) (i : Int) (b : Nat) (c : List Cell) : (calls P (n+1)).fn "is_integer" [.int i] b c = .ok (.bl true) c := by
  rw [calls_keep f_is_integer rfl rfl]; kernel_rfl
theorem s_is_integer_non (n : Nat) (b : Nat) (c : List Cell) : (calls P (n+1)).fn "is_integer" [.non] b c = .ok (.bl false) c := by
  rw [calls_keep f_is_integer rfl rfl]; kernel_rfl
theorem s_is_between (n : Nat) (i l m : Int) (b : Nat) (c : List Cell) : (calls P (n+2)).fn "is_between" [.int i, .int l, .int m] b c = .ok (.bl (decide (l ≤ i) && decide (i ≤ m))) c := by
  rw [calls_keep f_is_between rfl rfl]
  dsimp! [c_is_between, s_is_integer_int, cmpSem]
  by_cases h : l ≤ i <;> simp [h, fin]
theorem s_is_constant_int (n : Nat) (i : Int) (b : Nat) (c : List Cell) : (calls P (n+3)).fn "is_constant" [.int i] b c = .ok (.bl (decide (-900 ≤ i) && decide (i ≤ 900))) c := by
  rw [calls_keep f_is_constant rfl rfl]
  dsimp! [c_is_constant, s_is_between, cmpSem, isNon]
theorem s_is_constant_non (n : Nat) (b : Nat) (c : List Cell) : (calls P (n+3)).fn "is_constant" [.non] b c = .ok (.bl true) c := by
  rw [calls_keep f_is_constant rfl rfl]; kernel_rfl
theorem s_is_constant_str (n : Nat) (x : Str) (b : Nat) (c : List Cell) : (calls P (n+3)).fn "is_constant" [.str x] b c = .ok (.bl false) c := by
  rw [calls_keep f_is_constant rfl rfl]; kernel_rfl
/-- a name that the program takes -/
structure Nm (x : Str) : Prop where
  ok : ∀ (n b : Nat) (c : List Cell), (calls P (n+1)).fn "is_name" [.str x] b c = .ok (.bl true) c
  st : PyData.canLay0 (.str x) = true
  rp : (PyData.shown (.str x)).length ≤ 20 ∧ PyData.canLay0 (.str (PyData.shown (.str x))) = true
/-- a value of a plan -/
def vD : Option Int → D
  | none => .non
  | some i => .int i
def vOk : Option Int → Prop
  | none => True
  | some i => -900 ≤ i ∧ i ≤ 900
theorem s_is_constant (n : Nat) {v : Option Int} (h : vOk v) (b : Nat) (c : List Cell) : (calls P (n+3)).fn "is_constant" [vD v] b c = .ok (.bl true) c := by
  cases v with
  | none => exact s_is_constant_non n b c
  | some i => rw [vD, s_is_constant_int]; simp [h.1, h.2]
inductive Tst where
  | tru | emp (c : Str) | cmp (c o : Str) (k : Int) | not (t : Tst) | and (s t : Tst) | or (s t : Tst)
def Tst.d : Tst → D
  | .tru => .tup [.str "true"]
  | .emp c => .tup [.str "empty", .str c]
  | .cmp c o k => .tup [.str "compare", .str c, .str o, .int k]
  | .not t => .tup [.str "not", t.d]
  | .and s t => .tup [.str "and", s.d, t.d]
  | .or s t => .tup [.str "or", s.d, t.d]
def Tst.cols : Tst → List Str
  | .tru => []
  | .emp c => [c]
  | .cmp c _ _ => [c]
  | .not t => t.cols
  | .and s t => s.cols ++ t.cols
  | .or s t => s.cols ++ t.cols
def Tst.plain : Tst → Nat
  | .not t => t.plain
  | .and s t => s.plain + t.plain
  | .or s t => s.plain + t.plain
  | _ => 1
def Tst.deep : Tst → Nat
  | .not t => t.deep + 1
  | .and s t => max s.deep t.deep + 1
  | .or s t => max s.deep t.deep + 1
  | _ => 1
def orders : List Str := ["=", "<>", "<", "<=", ">", ">="]
def Tst.ok : Tst → Prop
  | .tru => True
  | .emp c => Nm c
  | .cmp c o k => Nm c ∧ o ∈ orders ∧ -900 ≤ k ∧ k ≤ 900
  | .not t => t.ok
  | .and s t => s.ok ∧ t.ok
  | .or s t => s.ok ∧ t.ok
theorem orders_ok {o : Str} (h : o ∈ orders) : PyData.canLay0 (.str o) = true := by
  have : ∀ o ∈ orders, PyData.canLay0 (.str o) = true := by decide +kernel
  exact this o h
theorem lay_lit {k : Nat} {x : String} (h : PyData.canLay0 (.str (Str.ofString x)) = true := by decide +kernel) : lay k (.str (Str.ofString x)) = true := by
  cases k <;> simpa only [lay] using h
theorem lay_str {k : Nat} {x : Str} (h : PyData.canLay0 (.str x) = true) : lay k (.str x) = true := by
  cases k <;> simpa only [lay] using h
theorem lay_int {k : Nat} {x : Int} : lay k (.int x) = true := by cases k <;> rfl
theorem layL_cons {k : Nat} {x : D} {xs : List D} (h : lay k x = true) (hs : layL k xs = true) : layL k (x :: xs) = true := by unfold layL; rw [h, hs]; rfl
theorem layL_nil {k : Nat} : layL k [] = true := by unfold layL; rfl
theorem lay_tup {k : Nat} {xs : List D} (h : layL k xs = true) : lay (k + 1) (.tup xs) = true := by unfold lay; exact h
theorem lay_lst {k : Nat} {xs : List D} (h : layL k xs = true) : lay (k + 1) (.lst xs) = true := by unfold lay; exact h
theorem Tst.lay : ∀ {t : Tst} {k : Nat}, t.ok → t.deep ≤ k → MP.lay k t.d = true
  | .tru, k + 1, _, _ => lay_tup (layL_cons lay_lit layL_nil)
  | .emp c, k + 1, h, _ => lay_tup (layL_cons lay_lit (layL_cons (lay_str (Nm.st h)) layL_nil))
  | .cmp c o i, k + 1, h, _ => lay_tup (layL_cons lay_lit (layL_cons (lay_str (Nm.st h.1)) (layL_cons (lay_str (orders_ok h.2.1)) (layL_cons lay_int layL_nil))))
  | .not t, k + 1, h, hd => lay_tup (layL_cons lay_lit (layL_cons (Tst.lay (t := t) h (by simp only [Tst.deep] at hd; omega)) layL_nil))
  | .and s t, k + 1, h, hd => lay_tup (layL_cons lay_lit (layL_cons (Tst.lay (t := s) h.1 (by simp only [Tst.deep] at hd; omega)) (layL_cons (Tst.lay (t := t) h.2 (by simp only [Tst.deep] at hd; omega)) layL_nil)))
  | .or s t, k + 1, h, hd => lay_tup (layL_cons lay_lit (layL_cons (Tst.lay (t := s) h.1 (by simp only [Tst.deep] at hd; omega)) (layL_cons (Tst.lay (t := t) h.2 (by simp only [Tst.deep] at hd; omega)) layL_nil)))
  | .tru, 0, _, h => absurd h (by simp [Tst.deep])
  | .emp _, 0, _, h => absurd h (by simp [Tst.deep])
  | .cmp _ _ _, 0, _, h => absurd h (by simp [Tst.deep])
  | .not _, 0, _, h => absurd h (by simp [Tst.deep])
  | .and _ _, 0, _, h => absurd h (by simp [Tst.deep])
  | .or _ _, 0, _, h => absurd h (by simp [Tst.deep])
/-- cd is asked for columns: it has x -/
def Has (cd : D) (x : Str) : Prop := ∀ (n b : Nat) (c : List Cell), cmpX P (calls P (n+3)) .NotIn (.str x) cd b c = .ok (.bl false) c
theorem eq_str {x y : Str} (hx : PyData.canLay0 (.str x) = true) (hy : PyData.canLay0 (.str y) = true) (b : Nat) (c : List Cell) : eqSem b c (.str x) (.str y) = some (decide (x = y)) := by
  rw [eqSem_lay (k := 0) (m := 0) (lay_str hx) (lay_str hy)]; simp [eqD, eqF, str_beq]
theorem eq_int (x y : Int) (b : Nat) (c : List Cell) : eqSem b c (.int x) (.int y) = some (decide (x = y)) := by
  rw [eqSem_lay (k := 0) (m := 0) lay_int lay_int]; simp only [eqD, eqF]; congr 1
theorem lay_any {t : Tst} (h : t.ok) : ∃ k, MP.lay k t.d = true := ⟨t.deep, Tst.lay h (Nat.le_refl _)⟩
def Tst.leaf : Tst → Bool
  | .tru => true
  | .emp _ => true
  | .cmp _ _ _ => true
  | _ => false
/-- a place whose columns are asked -/
structure Cols (cd : D) (S : Str → Prop) : Prop where
  lam : isLam cd = false
  has : ∀ x, S x → Has cd x
theorem s_is_plain {t : Tst} (hl : t.leaf = true) (h : t.ok) {cd : D} {S : Str → Prop} (C : Cols cd S) (hc : ∀ x ∈ t.cols, S x) (n b : Nat) (c : List Cell) : (calls P (n+4)).fn "is_plain" [t.d, cd] b c = .ok (.bl true) c := by
  rw [calls_keep f_is_plain rfl rfl]
  cases t with
  | tru =>
    dsimp! [c_is_plain, Tst.d, eq_str, eq_int]
  | emp x =>
    have hx := C.has x (hc x (by simp [Tst.cols])) n b c
    have h : Nm x := h
    dsimp! [c_is_plain, Tst.d, eq_str, eq_int, hx, C.lam]
  | cmp x o k =>
    have hx := C.has x (hc x (by simp [Tst.cols])) n b c
    have ho : o = "=" ∨ o = "<>" ∨ o = "<" ∨ o = "<=" ∨ o = ">" ∨ o = ">=" := by have := h.2.1; simpa [orders] using this
    have hk : decide (-900 ≤ k) = true ∧ decide (k ≤ 900) = true := ⟨decide_eq_true h.2.2.1, decide_eq_true h.2.2.2⟩
    have ho2 : ("=" = o ∨ "<>" = o ∨ "<" = o ∨ "<=" = o ∨ ">" = o ∨ ">=" = o) := by rcases ho with h | h | h | h | h | h <;> simp [h]
    dsimp! [c_is_plain, Tst.d, eq_str, eq_int, hx, C.lam]
    rw [if_neg (fun z => by rcases ho2 with q | q | q | q | q | q <;> simp [q] at z)]
    dsimp! [s_is_between, h.2.2.1, h.2.2.2]
  | _ => cases hl
theorem in_and (x : Str) (b : Nat) (c : List Cell) : inSem b c (.str x) (.tup [.str "and", .str "or"]) = some (decide ("and" = x) || decide ("or" = x)) := by
  simp [in_tup, fl_str, ef_ss]
/-- how many plain tests a test has -/
theorem not_empty {x : D} {xs : List D} {k : Nat} (h : lay k (.tup (x :: xs)) = true) (hk : k ≤ 64) (b : Nat) (c : List Cell) : eqSem b c (.tup (x :: xs)) (.tup []) = some false := by
  rw [eqSem_lay h (lay_tup (k := 0) layL_nil) hk]; rfl
theorem s_many_leaf {cd : D} {S : Str → Prop} (C : Cols cd S) {t : Tst} (ht : t.leaf = true) (h : t.ok) (hc : ∀ x ∈ t.cols, S x) (j n b : Nat) (c : List Cell) (hj0 : ¬ j = 0) : (calls P (n + j + 4)).fn "many_plain" [t.d, cd, .int j] b c = .ok (.int 1) c := by
  have hp := s_is_plain ht h C hc (n + j - 1) b c
  have e : n + j - 1 + 4 = n + j + 3 := by omega
  rw [e] at hp
  rw [calls_keep f_many_plain rfl rfl]
  have hl := Tst.lay h (Nat.le_refl _)
  cases t with
  | tru =>
    have hl := fun b c => not_empty hl (by simp [Tst.deep]) b c
    simp only [Tst.d] at hp hl
    dsimp! [c_many_plain, Tst.d, eq_int, hj0, hl, eq_str, hp, C.lam]
  | emp x =>
    have hl := fun b c => not_empty hl (by simp [Tst.deep]) b c
    simp only [Tst.d] at hp hl
    dsimp! [c_many_plain, Tst.d, eq_int, hj0, hl, eq_str, hp, C.lam]
  | cmp x o k =>
    have hl := fun b c => not_empty hl (by simp [Tst.deep]) b c
    simp only [Tst.d] at hp hl
    dsimp! [c_many_plain, Tst.d, eq_int, hj0, hl, eq_str, hp, C.lam]
  | _ => cases ht
theorem plain_int (a b : Nat) : ((a : Int) + ((b : Int) + 0)) = ((a + b : Nat) : Int) := by omega
theorem Tst.il (t : Tst) : isLam t.d = false := by cases t <;> rfl
theorem s_many_plain {cd : D} {S : Str → Prop} (C : Cols cd S) : ∀ {t : Tst} (h : t.ok) (hc : ∀ x ∈ t.cols, S x) (j n b : Nat) (c : List Cell), t.deep ≤ j → j ≤ 5 → (calls P (n + j + 4)).fn "many_plain" [t.d, cd, .int j] b c = .ok (.int t.plain) c := by
  intro t
  induction t with
  | tru => exact fun h hc j n b c hd hj => s_many_leaf C rfl h hc j n b c (by simp only [Tst.deep] at hd; omega)
  | emp x => exact fun h hc j n b c hd hj => s_many_leaf C rfl h hc j n b c (by simp only [Tst.deep] at hd; omega)
  | cmp x o k => exact fun h hc j n b c hd hj => s_many_leaf C rfl h hc j n b c (by simp only [Tst.deep] at hd; omega)
  | not t ih =>
    intro h hc j n b c hd hj
    obtain ⟨j, rfl⟩ : ∃ j', j = j' + 1 := ⟨j - 1, by simp only [Tst.deep] at hd; omega⟩
    simp only [Tst.deep] at hd
    have i1 := ih h hc j n b c (by omega) (by omega)
    rw [show n + j + 4 = n + (j + 1) + 3 by omega] at i1
    have hl := fun b c => not_empty (Tst.lay (t := .not t) h (Nat.le_refl _)) (by simp only [Tst.deep]; omega) b c
    rw [calls_keep f_many_plain rfl rfl]
    have hj0 : ¬ (j : Int) + 1 = 0 := by omega
    dsimp! [c_many_plain, Tst.d, eq_int, hj0, hl, eq_str, C.lam, i1, intsOf, Tst.plain, Tst.il]
  | and s t ihs iht =>
    intro h hc j n b c hd hj
    obtain ⟨j, rfl⟩ : ∃ j', j = j' + 1 := ⟨j - 1, by simp only [Tst.deep] at hd; omega⟩
    simp only [Tst.deep] at hd
    have i1 := ihs h.1 (fun x hx => hc x (List.mem_append_left _ hx)) j n b c (by omega) (by omega)
    have i2 := iht h.2 (fun x hx => hc x (List.mem_append_right _ hx)) j n b c (by omega) (by omega)
    rw [show n + j + 4 = n + (j + 1) + 3 by omega] at i1 i2
    have hl := fun b c => not_empty (Tst.lay (t := .and s t) h (Nat.le_refl _)) (by simp only [Tst.deep]; omega) b c
    rw [calls_keep f_many_plain rfl rfl]
    have hj0 : ¬ (j : Int) + 1 = 0 := by omega
    dsimp! [c_many_plain, Tst.d, eq_int, hj0, hl, eq_str, C.lam, i1, i2, intsOf, Tst.plain, Tst.il]
  | or s t ihs iht =>
    intro h hc j n b c hd hj
    obtain ⟨j, rfl⟩ : ∃ j', j = j' + 1 := ⟨j - 1, by simp only [Tst.deep] at hd; omega⟩
    simp only [Tst.deep] at hd
    have i1 := ihs h.1 (fun x hx => hc x (List.mem_append_left _ hx)) j n b c (by omega) (by omega)
    have i2 := iht h.2 (fun x hx => hc x (List.mem_append_right _ hx)) j n b c (by omega) (by omega)
    rw [show n + j + 4 = n + (j + 1) + 3 by omega] at i1 i2
    have hl := fun b c => not_empty (Tst.lay (t := .or s t) h (Nat.le_refl _)) (by simp only [Tst.deep]; omega) b c
    rw [calls_keep f_many_plain rfl rfl]
    have hj0 : ¬ (j : Int) + 1 = 0 := by omega
    dsimp! [c_many_plain, Tst.d, eq_int, hj0, hl, eq_str, C.lam, i1, i2, intsOf, Tst.plain, Tst.il]
theorem s_is_test {cd : D} {S : Str → Prop} (C : Cols cd S) {t : Tst} (h : t.ok) (hd : t.deep ≤ 5) (hp : t.plain ≤ 6) (hc : ∀ x ∈ t.cols, S x) (n b : Nat) (c : List Cell) : (calls P (n + 10)).fn "is_test" [t.d, cd] b c = .ok (.bl true) c := by
  have i1 : (calls P (n + 9)).fn "many_plain" [t.d, cd, .int 5] b c = .ok (.int t.plain) c := s_many_plain C h hc 5 n b c hd (Nat.le_refl _)
  rw [calls_keep f_is_test rfl rfl]
  have hp2 : (t.plain : Int) ≤ 6 := by omega
  dsimp! [c_is_test, i1, C.lam, Tst.il, hp2, hp]
theorem Tst.lenc : ∀ t : Tst, t.cols.length ≤ t.plain
  | .tru => by simp [Tst.cols]
  | .emp _ => by simp [Tst.cols, Tst.plain]
  | .cmp _ _ _ => by simp [Tst.cols, Tst.plain]
  | .not t => by simpa [Tst.cols, Tst.plain] using Tst.lenc t
  | .and s t => by have := Tst.lenc s; have := Tst.lenc t; simp only [Tst.cols, Tst.plain, List.length_append]; omega
  | .or s t => by have := Tst.lenc s; have := Tst.lenc t; simp only [Tst.cols, Tst.plain, List.length_append]; omega
def sD (x : Str) : D := .str x
theorem sD_il (x : Str) : isLam (sD x) = false := rfl
theorem comp_id {step : D → Nat → List Cell → Res (Option D)} {b : Nat} {c : List Cell} {xs : List Str} {acc : List D} (h : ∀ x ∈ xs, step (.str x) b c = .ok (some (.str x)) c) (hl : acc.length + xs.length ≤ MP.sizeLine) : compL step b (xs.map .str) acc c = .ok (acc ++ xs.map .str) c := compL_mapT (e := D.str) (f := D.str) h hl
theorem s_columns_in : ∀ {t : Tst} (h : t.ok) (j n b : Nat) (c : List Cell), t.deep ≤ j → t.plain ≤ 6 → (calls P (n + j)).fn "columns_in" [t.d] b c = .ok (.lst (t.cols.map .str)) c := by
  intro t
  induction t with
  | tru =>
    intro h j n b c hd hp
    obtain ⟨j, rfl⟩ : ∃ j', j = j' + 1 := ⟨j - 1, by simp only [Tst.deep] at hd; omega⟩
    rw [show n + (j + 1) = n + j + 1 by omega, calls_keep f_columns_in rfl rfl]
    dsimp! [c_columns_in, Tst.d, Tst.cols]
  | emp x =>
    intro h j n b c hd hp
    obtain ⟨j, rfl⟩ : ∃ j', j = j' + 1 := ⟨j - 1, by simp only [Tst.deep] at hd; omega⟩
    rw [show n + (j + 1) = n + j + 1 by omega, calls_keep f_columns_in rfl rfl]
    dsimp! [c_columns_in, Tst.d, Tst.cols]
  | cmp x o k =>
    intro h j n b c hd hp
    obtain ⟨j, rfl⟩ : ∃ j', j = j' + 1 := ⟨j - 1, by simp only [Tst.deep] at hd; omega⟩
    rw [show n + (j + 1) = n + j + 1 by omega, calls_keep f_columns_in rfl rfl]
    dsimp! [c_columns_in, Tst.d, Tst.cols]
  | not t ih =>
    intro h j n b c hd hp
    obtain ⟨j, rfl⟩ : ∃ j', j = j' + 1 := ⟨j - 1, by simp only [Tst.deep] at hd; omega⟩
    simp only [Tst.deep, Tst.plain] at hd hp
    have i1 := ih h j n b c (by omega) (by omega)
    have l1 := Tst.lenc t
    rw [show n + (j + 1) = n + j + 1 by omega, calls_keep f_columns_in rfl rfl]
    dsimp! [c_columns_in, Tst.d, Tst.cols, i1, Tst.il]
    rw [comp_id (fun x _ => by dsimp! []) (by simp [MP.sizeLine]; omega)]
    have : t.cols.length ≤ 16777216 := by omega
    dsimp! [this]
  | and s t ihs iht =>
    intro h j n b c hd hp
    obtain ⟨j, rfl⟩ : ∃ j', j = j' + 1 := ⟨j - 1, by simp only [Tst.deep] at hd; omega⟩
    simp only [Tst.deep, Tst.plain] at hd hp
    have i1 := ihs h.1 j n b c (by omega) (by omega)
    have i2 := iht h.2 j n b c (by omega) (by omega)
    have l1 := Tst.lenc s
    have l2 := Tst.lenc t
    rw [show n + (j + 1) = n + j + 1 by omega, calls_keep f_columns_in rfl rfl]
    dsimp! [c_columns_in, Tst.d, Tst.cols, i1, Tst.il]
    rw [comp_id (fun x _ => by dsimp! []) (by simp [MP.sizeLine]; omega)]
    dsimp! [i2, Tst.il]
    rw [comp_id (fun x _ => by dsimp! []) (by simp [MP.sizeLine]; omega)]
    have : s.cols.length + t.cols.length ≤ 16777216 := by omega
    dsimp! [this]
  | or s t ihs iht =>
    intro h j n b c hd hp
    obtain ⟨j, rfl⟩ : ∃ j', j = j' + 1 := ⟨j - 1, by simp only [Tst.deep] at hd; omega⟩
    simp only [Tst.deep, Tst.plain] at hd hp
    have i1 := ihs h.1 j n b c (by omega) (by omega)
    have i2 := iht h.2 j n b c (by omega) (by omega)
    have l1 := Tst.lenc s
    have l2 := Tst.lenc t
    rw [show n + (j + 1) = n + j + 1 by omega, calls_keep f_columns_in rfl rfl]
    dsimp! [c_columns_in, Tst.d, Tst.cols, i1, Tst.il]
    rw [comp_id (fun x _ => by dsimp! []) (by simp [MP.sizeLine]; omega)]
    dsimp! [i2, Tst.il]
    rw [comp_id (fun x _ => by dsimp! []) (by simp [MP.sizeLine]; omega)]
    have : s.cols.length + t.cols.length ≤ 16777216 := by omega
    dsimp! [this]
end Hk01
end
section
set_option maxRecDepth 100000
set_option maxHeartbeats 1000000
namespace Hk01
open PySem MP
theorem putD_new {kvs : List (L2.Key × D)} {k : L2.Key} {v : D} (h : ∀ p ∈ kvs, p.1 ≠ k) : putD kvs k v = kvs ++ [(k, v)] := by
  unfold putD
  rw [if_neg]
  rw [List.any_eq_true]
  rintro ⟨p, hp, e⟩
  exact h p hp (of_decide_eq_true e)
theorem dcL_new {step : D → Nat → List Cell → Res (Option (L2.Key × D))} {b : Nat} {c : List Cell} {v : D} : ∀ {xs : List Str} {acc : List (L2.Key × D)}, (∀ x ∈ xs, step (.str x) b c = .ok (some (.inr x, v)) c) → xs.Nodup → (∀ p ∈ acc, ∀ x ∈ xs, p.1 ≠ .inr x) → acc.length + xs.length ≤ MP.sizeLine →
    dcL step b (xs.map .str) acc c = .ok (acc ++ xs.map fun x => (.inr x, v)) c
  | [], acc, _, _, _, _ => by simp [dcL]
  | x :: xs, acc, hs, hn, ha, hl => by
    rw [List.nodup_cons] at hn
    have hl2 : acc.length + (xs.length + 1) ≤ MP.sizeLine := hl
    rw [List.map_cons, dcL, hs x (List.mem_cons_self ..), Res.bind_ok]
    dsimp only
    rw [if_pos (by omega), putD_new (fun p hp => ha p hp x (List.mem_cons_self ..))]
    rw [dcL_new (xs := xs) (fun y hy => hs y (List.mem_cons_of_mem _ hy)) hn.2 (fun p hp y hy => ?_) (by simp; omega)]
    · simp
    · rcases List.mem_append.mp hp with hp | hp
      · exact ha p hp y (List.mem_cons_of_mem _ hy)
      · rw [List.mem_singleton.mp hp]
        intro z
        injection z with z
        exact hn.1 (z ▸ hy)
theorem s_are_unlike {xs : List Str} (hn : xs.Nodup) (hl : xs.length ≤ 1000) (n b : Nat) (c : List Cell) : (calls P (n+1)).fn "are_unlike" [.lst (xs.map .str)] b c = .ok (.bl true) c := by
  rw [calls_keep f_are_unlike rfl rfl]
  dsimp! [c_are_unlike]
  rw [dcL_new (v := .bl true) (fun x _ => by dsimp! [keyOf]) hn (fun p hp => by cases hp) (by simp [MP.sizeLine]; omega)]
  dsimp! [dicEnd, dictOf, eq_int]
inductive Src where
  | any | val (v : Option Int)
def Src.d : Src → D
  | .any => .str "any"
  | .val v => vD v
def Src.ok : Src → Prop
  | .any => True
  | .val v => vOk v
theorem vD_il (v : Option Int) : isLam (vD v) = false := by cases v <;> rfl
theorem Src.il (s : Src) : isLam s.d = false := by cases s <;> first | rfl | exact vD_il _
def pD (p : Str × Src) : D := .tup [.str p.1, p.2.d]
structure PairsOk (ps : List (Str × Src)) (srcs : Bool) : Prop where
  nm : ∀ p ∈ ps, Nm p.1
  src : ∀ p ∈ ps, p.2.ok
  any : srcs = false → ∀ p ∈ ps, p.2 ≠ .any
  nd : (ps.map (·.1)).Nodup
  few : ps.length ≤ 4
theorem s_is_name {x : Str} (h : Nm x) (n b : Nat) (c : List Cell) : (calls P (n+1)).fn "is_name" [.str x] b c = .ok (.bl true) c := h.ok n b c
theorem s_are_pairs {ps : List (Str × Src)} {srcs : Bool} (h : PairsOk ps srcs) {l : Nat} (hl : l ≤ ps.length) (n b : Nat) (c : List Cell) : (calls P (n+4)).fn "are_pairs" [.tup (ps.map pD), .int l, .bl srcs] b c = .ok (.bl true) c := by
  rw [calls_keep f_are_pairs rfl rfl]
  have h4 : ¬ (4 < (ps.length : Int)) := by have := h.few; omega
  have h5 := h.few
  dsimp! [c_are_pairs, hl, h4]
  simp only [rb_assoc]
  refine for_nx (fun γ => ∃ v, γ = [some (.tup (ps.map pD)), some (.int l), some (.bl srcs), v]) ⟨_, rfl⟩ ?_ ?_
  · rintro p hp γ ⟨v, rfl⟩
    have h1 := h.nm p hp
    obtain ⟨x, s⟩ := p
    cases s with
    | any =>
      cases srcs with
      | true =>
        dsimp! [pD, Src.d, s_is_name h1, eq_int, s_is_constant_str, eq_str, goes_nx]
      | false => exact absurd rfl (h.any rfl _ hp)
    | val v =>
      have h2 : vOk v := h.src _ hp
      dsimp! [pD, Src.d, s_is_name h1, eq_int, s_is_constant _ h2, vD_il, goes_nx]
  · rintro γ ⟨v, rfl⟩
    dsimp! []
    rw [compL_mapT (f := fun p : Str × Src => .str p.1) (fun p _ => by dsimp! [pD]) (by simp [MP.sizeLine]; omega)]
    have e : ps.map (fun p : Str × Src => D.str p.1) = (ps.map (·.1)).map .str := by simp
    have h6 : ps.length ≤ 16777216 := by omega
    dsimp! [h6, e]
    have := s_are_unlike h.nd (by simp; omega) (n + 2) b c
    simp only [List.map_map] at this
    dsimp! [this]
theorem i_AnyNames : P.init "AnyNames" = some none := by kernel_rfl
theorem mk_Any (call : Call) (b : Nat) (c : List Cell) : mkSem P call "AnyNames" [] b c = .ok (.ins "AnyNames" []) c := by
  unfold mkSem
  rw [i_AnyNames]
  rfl
theorem cols_Any : Cols (.ins "AnyNames" []) Nm where
  lam := rfl
  has := fun x hx n b c => by
    have e : ownCmp P .NotIn b c (.str x) (.ins "AnyNames" []) = some (("AnyNames.__contains__" : Str), true, [D.ins "AnyNames" [], D.str x]) := by
      show (P.meth "AnyNames" "__contains__").map (fun q => (q, true, [D.ins "AnyNames" [], D.str x])) = _
      rw [p_AnyNames___contains__]; rfl
    unfold cmpX
    rw [e]
    dsimp only
    rw [calls_keep f_AnyNames___contains__ rfl rfl]
    dsimp! [c_AnyNames___contains__, s_is_name hx, negR]
theorem cols_tup (hs : List Str) (h : ∀ x ∈ hs, True) : Cols (.tup (hs.map .str)) (· ∈ hs) where
  lam := rfl
  has := fun x hx n b c => by
    have e1 : (hs.map D.str).all flat = true := by simp [List.all_eq_true, fl_str]
    have e2 : ((hs.map D.str).any fun z => eqF z (.str x)) = true := by
      rw [List.any_eq_true]
      exact ⟨.str x, List.mem_map.mpr ⟨x, hx, rfl⟩, by simp [ef_ss]⟩
    rw [cx_NotIn_tup, cs_NotIn, in_tup, e1, e2]
    rfl
structure TOk (t : Tst) : Prop where
  ok : t.ok
  deep : t.deep ≤ 3
  plain : t.plain ≤ 2
inductive Knd where
  | ins (ps : List (Str × Src)) (t : Tst) | upd (ps : List (Str × Src)) (t u : Tst) | del (t : Tst)
def Knd.d : Knd → D
  | .ins ps t => .tup [.str "insert", .tup (ps.map pD), t.d]
  | .upd ps t u => .tup [.str "update", .tup (ps.map pD), t.d, u.d]
  | .del t => .tup [.str "delete", t.d]
def Knd.ment : Knd → List Str
  | .ins ps t => ps.map (·.1) ++ t.cols
  | .upd ps t u => ps.map (·.1) ++ t.cols ++ u.cols
  | .del t => t.cols
def Knd.ok : Knd → Prop
  | .ins ps t => PairsOk ps true ∧ TOk t
  | .upd ps t u => PairsOk ps true ∧ 1 ≤ ps.length ∧ TOk t ∧ TOk u
  | .del t => TOk t
theorem Knd.il (k : Knd) : isLam k.d = false := by cases k <;> rfl
theorem Tst.nm : ∀ {t : Tst}, t.ok → ∀ x ∈ t.cols, Nm x
  | .tru, _, x, hx => by simp [Tst.cols] at hx
  | .emp c, h, x, hx => by simp only [Tst.cols, List.mem_singleton] at hx; rw [hx]; exact h
  | .cmp c o k, h, x, hx => by simp only [Tst.cols, List.mem_singleton] at hx; rw [hx]; exact h.1
  | .not t, h, x, hx => Tst.nm (t := t) h x hx
  | .and s t, h, x, hx => by
    rcases List.mem_append.mp hx with z | z
    · exact Tst.nm h.1 x z
    · exact Tst.nm h.2 x z
  | .or s t, h, x, hx => by
    rcases List.mem_append.mp hx with z | z
    · exact Tst.nm h.1 x z
    · exact Tst.nm h.2 x z
theorem s_is_free_test {t : Tst} (h : TOk t) (n b : Nat) (c : List Cell) : (calls P (n + 11)).fn "is_free_test" [t.d] b c = .ok (.bl true) c := by
  rw [calls_keep f_is_free_test rfl rfl]
  have i1 := s_is_test cols_Any h.ok (by have := h.deep; omega) (by have := h.plain; omega) (Tst.nm h.ok) n b c
  dsimp! [c_is_free_test, Tst.il, mk_Any, i1]
theorem vD_lay {k : Nat} (v : Option Int) : lay k (vD v) = true := by cases v <;> cases k <;> rfl
theorem src_lay {k : Nat} (s : Src) : lay k s.d = true := by
  cases s with
  | any => exact lay_lit
  | val v => exact vD_lay v
theorem layL_map {α : Type} {k : Nat} {e : α → D} : ∀ {xs : List α}, (∀ x ∈ xs, lay k (e x) = true) → layL k (xs.map e) = true
  | [], _ => layL_nil
  | x :: xs, h => layL_cons (h x (List.mem_cons_self ..)) (layL_map fun y hy => h y (List.mem_cons_of_mem _ hy))
theorem pD_lay {k : Nat} {p : Str × Src} (h : Nm p.1) : lay (k + 1) (pD p) = true := lay_tup (layL_cons (lay_str h.st) (layL_cons (src_lay _) layL_nil))
theorem TOk.lay {t : Tst} (h : TOk t) {k : Nat} (hk : 3 ≤ k) : lay k t.d = true := Tst.lay h.ok (Nat.le_trans h.deep hk)
theorem Knd.lay {k : Knd} (h : k.ok) {j : Nat} : lay (j + 4) k.d = true := by
  cases k with
  | ins ps t => exact lay_tup (layL_cons lay_lit (layL_cons (lay_tup (layL_map fun p hp => pD_lay (h.1.nm p hp))) (layL_cons (h.2.lay (by omega)) layL_nil)))
  | upd ps t u => exact lay_tup (layL_cons lay_lit (layL_cons (lay_tup (layL_map fun p hp => pD_lay (h.1.nm p hp))) (layL_cons (h.2.2.1.lay (by omega)) (layL_cons (h.2.2.2.lay (by omega)) layL_nil))))
  | del t => exact lay_tup (layL_cons lay_lit (layL_cons (TOk.lay h (by omega)) layL_nil))
theorem s_is_kind {k : Knd} (h : k.ok) (n b : Nat) (c : List Cell) : (calls P (n + 12)).fn "is_kind" [k.d] b c = .ok (.bl true) c := by
  rw [calls_keep f_is_kind rfl rfl]
  have hl := Knd.lay h (j := 0)
  cases k with
  | ins ps t =>
    have hl := fun b c => not_empty hl (by omega) b c
    have i1 := s_are_pairs h.1 (l := 0) (by omega) (n + 7) b c
    dsimp! [c_is_kind, Knd.d, Tst.il, s_is_free_test h.2, hl, eq_int, eq_str]
    dsimp! [show (calls P (n + 11)).fn "are_pairs" [.tup (ps.map pD), .int 0, .bl true] b c = .ok (.bl true) c from i1, s_is_free_test h.2, Tst.il]
  | upd ps t u =>
    have hl := fun b c => not_empty hl (by omega) b c
    have i1 := s_are_pairs h.1 (l := 1) h.2.1 (n + 7) b c
    dsimp! [c_is_kind, Knd.d, Tst.il, s_is_free_test h.2.2.1, s_is_free_test h.2.2.2, hl, eq_int, eq_str]
    dsimp! [show (calls P (n + 11)).fn "are_pairs" [.tup (ps.map pD), .int 1, .bl true] b c = .ok (.bl true) c from i1, s_is_free_test h.2.2.1, s_is_free_test h.2.2.2, Tst.il]
  | del t =>
    have hl := fun b c => not_empty hl (by omega) b c
    dsimp! [c_is_kind, Knd.d, Tst.il, s_is_free_test h, hl, eq_int, eq_str]
theorem fst_str (ps : List (Str × Src)) : ps.map (fun p => D.str p.1) = (ps.map (·.1)).map .str := by simp
theorem s_mentioned {k : Knd} (h : k.ok) (n b : Nat) (c : List Cell) : (calls P (n + 5)).fn "mentioned" [k.d] b c = .ok (.lst (k.ment.map .str)) c := by
  rw [calls_keep f_mentioned rfl rfl]
  have ci : ∀ {t : Tst}, TOk t → (calls P (n + 4)).fn "columns_in" [t.d] b c = .ok (.lst (t.cols.map .str)) c := fun {t} ht => s_columns_in ht.ok 3 (n + 1) b c ht.deep (by have := ht.plain; omega)
  have cl : ∀ {t : Tst}, TOk t → t.cols.length ≤ 2 := fun {t} ht => Nat.le_trans (Tst.lenc t) ht.plain
  cases k with
  | ins ps t =>
    have h4 := h.1.few
    have l1 := cl h.2
    have h5 : ps.length ≤ 16777216 := by omega
    have h6 : ps.length + t.cols.length ≤ 16777216 := by omega
    dsimp! [c_mentioned, Knd.d, eq_str]
    rw [compL_mapT (f := fun p : Str × Src => .str p.1) (fun p _ => by dsimp! [pD]) (by simp [MP.sizeLine]; omega)]
    dsimp! [h5, eq_str, ci h.2, Tst.il, h6, Knd.ment]
  | upd ps t u =>
    have h4 := h.1.few
    have l1 := cl h.2.2.1
    have l2 := cl h.2.2.2
    have h5 : ps.length ≤ 16777216 := by omega
    have h6 : ps.length + t.cols.length ≤ 16777216 := by omega
    have h7 : ps.length + (t.cols.length + u.cols.length) ≤ 16777216 := by omega
    have h8 : ps.length + t.cols.length + u.cols.length ≤ 16777216 := by omega
    dsimp! [c_mentioned, Knd.d, eq_str]
    rw [compL_mapT (f := fun p : Str × Src => .str p.1) (fun p _ => by dsimp! [pD]) (by simp [MP.sizeLine]; omega)]
    dsimp! [h5, eq_str, ci h.2.2.1, ci h.2.2.2, Tst.il, h6, h7, h8, Knd.ment]
  | del t =>
    have l1 := cl h
    have h5 : t.cols.length ≤ 16777216 := by omega
    dsimp! [c_mentioned, Knd.d, eq_str, ci h, Tst.il, Knd.ment, h5]
theorem s_law_columns_in : ∀ {t : Tst} (h : t.ok) (j n b : Nat) (c : List Cell), t.deep ≤ j → t.plain ≤ 6 → (calls P (n + j)).fn "_law_columns_in" [t.d] b c = .ok (.lst (t.cols.map .str)) c := by
  intro t
  induction t with
  | tru =>
    intro h j n b c hd hp
    obtain ⟨j, rfl⟩ : ∃ j', j = j' + 1 := ⟨j - 1, by simp only [Tst.deep] at hd; omega⟩
    rw [show n + (j + 1) = n + j + 1 by omega, calls_keep f__law_columns_in rfl rfl]
    dsimp! [c__law_columns_in, Tst.d, Tst.cols]
  | emp x =>
    intro h j n b c hd hp
    obtain ⟨j, rfl⟩ : ∃ j', j = j' + 1 := ⟨j - 1, by simp only [Tst.deep] at hd; omega⟩
    rw [show n + (j + 1) = n + j + 1 by omega, calls_keep f__law_columns_in rfl rfl]
    dsimp! [c__law_columns_in, Tst.d, Tst.cols]
  | cmp x o k =>
    intro h j n b c hd hp
    obtain ⟨j, rfl⟩ : ∃ j', j = j' + 1 := ⟨j - 1, by simp only [Tst.deep] at hd; omega⟩
    rw [show n + (j + 1) = n + j + 1 by omega, calls_keep f__law_columns_in rfl rfl]
    dsimp! [c__law_columns_in, Tst.d, Tst.cols]
  | not t ih =>
    intro h j n b c hd hp
    obtain ⟨j, rfl⟩ : ∃ j', j = j' + 1 := ⟨j - 1, by simp only [Tst.deep] at hd; omega⟩
    simp only [Tst.deep, Tst.plain] at hd hp
    have i1 := ih h j n b c (by omega) (by omega)
    have l1 := Tst.lenc t
    have l2 : t.cols.length ≤ 16777216 := by omega
    rw [show n + (j + 1) = n + j + 1 by omega, calls_keep f__law_columns_in rfl rfl]
    dsimp! [c__law_columns_in, Tst.d, Tst.cols, i1, Tst.il, l2]
  | and s t ihs iht =>
    intro h j n b c hd hp
    obtain ⟨j, rfl⟩ : ∃ j', j = j' + 1 := ⟨j - 1, by simp only [Tst.deep] at hd; omega⟩
    simp only [Tst.deep, Tst.plain] at hd hp
    have i1 := ihs h.1 j n b c (by omega) (by omega)
    have i2 := iht h.2 j n b c (by omega) (by omega)
    have l1 := Tst.lenc s
    have l2 := Tst.lenc t
    have l3 : s.cols.length ≤ 16777216 := by omega
    have l4 : s.cols.length + t.cols.length ≤ 16777216 := by omega
    rw [show n + (j + 1) = n + j + 1 by omega, calls_keep f__law_columns_in rfl rfl]
    dsimp! [c__law_columns_in, Tst.d, Tst.cols, i1, i2, Tst.il, l3, l4]
  | or s t ihs iht =>
    intro h j n b c hd hp
    obtain ⟨j, rfl⟩ : ∃ j', j = j' + 1 := ⟨j - 1, by simp only [Tst.deep] at hd; omega⟩
    simp only [Tst.deep, Tst.plain] at hd hp
    have i1 := ihs h.1 j n b c (by omega) (by omega)
    have i2 := iht h.2 j n b c (by omega) (by omega)
    have l1 := Tst.lenc s
    have l2 := Tst.lenc t
    have l3 : s.cols.length ≤ 16777216 := by omega
    have l4 : s.cols.length + t.cols.length ≤ 16777216 := by omega
    rw [show n + (j + 1) = n + j + 1 by omega, calls_keep f__law_columns_in rfl rfl]
    dsimp! [c__law_columns_in, Tst.d, Tst.cols, i1, i2, Tst.il, l3, l4]
theorem s_law_mentioned {k : Knd} (h : k.ok) (n b : Nat) (c : List Cell) : (calls P (n + 5)).fn "_law_mentioned" [k.d] b c = .ok (.lst (k.ment.map .str)) c := by
  rw [calls_keep f__law_mentioned rfl rfl]
  have ci : ∀ {t : Tst}, TOk t → (calls P (n + 4)).fn "_law_columns_in" [t.d] b c = .ok (.lst (t.cols.map .str)) c := fun {t} ht => s_law_columns_in ht.ok 3 (n + 1) b c ht.deep (by have := ht.plain; omega)
  have cl : ∀ {t : Tst}, TOk t → t.cols.length ≤ 2 := fun {t} ht => Nat.le_trans (Tst.lenc t) ht.plain
  cases k with
  | ins ps t =>
    have h4 := h.1.few
    have l1 := cl h.2
    have h5 : ps.length ≤ 16777216 := by omega
    have h6 : ps.length + t.cols.length ≤ 16777216 := by omega
    dsimp! [c__law_mentioned, Knd.d, eq_str]
    rw [compL_mapT (f := fun p : Str × Src => .str p.1) (fun p _ => by dsimp! [pD]) (by simp [MP.sizeLine]; omega)]
    dsimp! [h5, eq_str, ci h.2, Tst.il, h6, Knd.ment]
  | upd ps t u =>
    have h4 := h.1.few
    have l1 := cl h.2.2.1
    have l2 := cl h.2.2.2
    have h5 : ps.length ≤ 16777216 := by omega
    have h6 : ps.length + t.cols.length ≤ 16777216 := by omega
    have h7 : ps.length + (t.cols.length + u.cols.length) ≤ 16777216 := by omega
    have h8 : ps.length + t.cols.length + u.cols.length ≤ 16777216 := by omega
    dsimp! [c__law_mentioned, Knd.d, eq_str]
    rw [compL_mapT (f := fun p : Str × Src => .str p.1) (fun p _ => by dsimp! [pD]) (by simp [MP.sizeLine]; omega)]
    dsimp! [h5, eq_str, ci h.2.2.1, ci h.2.2.2, Tst.il, h6, h7, h8, Knd.ment]
  | del t =>
    have l1 := cl h
    have h5 : t.cols.length ≤ 16777216 := by omega
    dsimp! [c__law_mentioned, Knd.d, eq_str, ci h, Tst.il, Knd.ment, h5]
end Hk01
end
section
set_option maxRecDepth 100000
set_option maxHeartbeats 1000000
namespace Hk01
open PySem MP
theorem mergeD_new (acc : List (L2.Key × D)) : ∀ (ps : List (L2.Key × D)), ((acc ++ ps).map (·.1)).Nodup → ps.foldl (fun acc p => putD acc p.1 p.2) acc = acc ++ ps
  | [], _ => by simp
  | p :: ps, h => by
    have h2 : ((acc ++ [p] ++ ps).map (·.1)).Nodup := by simpa using h
    have hn : ∀ q ∈ acc, q.1 ≠ p.1 := by
      intro q hq z
      rw [List.map_append, List.map_append, List.nodup_append] at h2
      have h3 := h2.1
      rw [List.nodup_append] at h3
      exact h3.2.2 q.1 (List.mem_map.mpr ⟨q, hq, rfl⟩) p.1 (by simp) z
    rw [List.foldl_cons, putD_new hn, mergeD_new (acc ++ [p]) ps h2]
    simp
theorem prs_of {α : Type} (e : α → D) : ∀ xs : List (Str × α), prsOf (xs.map fun p => .tup [.str p.1, e p.2]) = some (xs.map fun p => (.inr p.1, e p.2))
  | [] => rfl
  | x :: xs => by
    rw [List.map_cons, prsOf, prs_of e xs]
    rfl
theorem nodup_key {α : Type} (e : α → D) : ∀ {xs : List (Str × α)}, (xs.map (·.1)).Nodup → ((xs.map fun p => ((.inr p.1, e p.2) : L2.Key × D)).map (·.1)).Nodup
  | [], _ => by simp
  | x :: xs, h => by
    rw [List.map_cons, List.nodup_cons] at h
    rw [List.map_cons, List.map_cons, List.nodup_cons]
    refine ⟨fun z => h.1 ?_, nodup_key e h.2⟩
    obtain ⟨q, hq, e1⟩ := List.mem_map.mp z
    obtain ⟨r, hr, rfl⟩ := List.mem_map.mp hq
    have : r.1 = x.1 := by injection e1
    exact List.mem_map.mpr ⟨r, hr, this⟩
theorem dict_of {α : Type} (e : α → D) {xs : List (Str × α)} (h : (xs.map (·.1)).Nodup) : (prsOf (xs.map fun p => .tup [.str p.1, e p.2])).map (fun ps => dictOf (mergeD ps)) = some (.dic (xs.map fun p => (.str p.1, e p.2))) := by
  rw [prs_of]
  unfold mergeD
  rw [Option.map_some, mergeD_new [] _ (by simpa using nodup_key e h)]
  unfold dictOf
  simp [MP.kD]
theorem dict_tup {α : Type} (e : α → D) {xs : List (Str × α)} (h : (xs.map (·.1)).Nodup) (b : Nat) (c : List Cell) : bltSem .dict [.tup (xs.map fun p => .tup [.str p.1, e p.2])] b c = some (.dic (xs.map fun p => (.str p.1, e p.2))) := dict_of e h
theorem dict_lst {α : Type} (e : α → D) {xs : List (Str × α)} (h : (xs.map (·.1)).Nodup) (b : Nat) (c : List Cell) : bltSem .dict [.lst (xs.map fun p => .tup [.str p.1, e p.2])] b c = some (.dic (xs.map fun p => (.str p.1, e p.2))) := dict_of e h
theorem keys_of {α : Type} (e : α → D) : ∀ xs : List (Str × α), keysOf (xs.map fun p => (.str p.1, e p.2)) = some (xs.map fun p => (.inr p.1, e p.2))
  | [] => rfl
  | x :: xs => by
    rw [List.map_cons, keysOf, keys_of e xs]
    rfl
theorem look_of {α : Type} (e : α → D) (x : Str) : ∀ xs : List (Str × α), look (xs.map fun p => ((.inr p.1, e p.2) : L2.Key × D)) (.inr x) = (xs.find? fun p => decide (p.1 = x)).map fun p => e p.2
  | [] => rfl
  | y :: xs => by
    have ih := look_of e x xs
    unfold look at ih ⊢
    rw [List.map_cons, List.find?_cons, List.find?_cons]
    by_cases h : y.1 = x
    · have h2 : (Sum.inr y.1 : L2.Key) = .inr x := by rw [h]
      simp only [h2, decide_true, h]
      rfl
    · have h2 : ¬ (Sum.inr y.1 : L2.Key) = .inr x := fun z => h (by injection z)
      simp only [h2, decide_false, h]
      exact ih
theorem in_dicT {α : Type} (e : α → D) (xs : List (Str × α)) (x : Str) (b : Nat) (c : List Cell) : inSem b c (.str x) (.dic (xs.map fun p => (.str p.1, e p.2))) = some (decide (x ∈ xs.map (·.1))) := by
  rw [in_dic, keys_of]
  show some (look _ (.inr x)).isSome = _
  rw [look_of, Option.isSome_map]
  congr 1
  by_cases h : x ∈ xs.map (·.1)
  · rw [decide_eq_true h, List.find?_isSome]
    obtain ⟨p, hp, rfl⟩ := List.mem_map.mp h
    exact ⟨p, hp, by simp⟩
  · rw [decide_eq_false h]
    cases hf : xs.find? fun p => decide (p.1 = x) with
    | none => rfl
    | some p => exact absurd (List.mem_map.mpr ⟨p, List.mem_of_find?_eq_some hf, of_decide_eq_true (List.find?_some (p := fun p : Str × α => decide (p.1 = x)) hf)⟩) h
theorem ix_dicT {α : Type} (e : α → D) (xs : List (Str × α)) (x : Str) (b : Nat) (c : List Cell) : ixSem b c (.dic (xs.map fun p => (.str p.1, e p.2))) (.str x) = (xs.find? fun p => decide (p.1 = x)).map fun p => e p.2 := by
  show (match keyOf (.str x), keysOf (xs.map fun p => (.str p.1, e p.2)) with | some k, some kvs => look kvs k | _, _ => none) = _
  rw [keys_of]
  exact look_of e x xs
theorem any_strs (x : Str) (hs : List Str) : hs.any ((fun z => eqF z (.str x)) ∘ D.str) = decide (x ∈ hs) := by
  by_cases h : x ∈ hs
  · rw [decide_eq_true h, List.any_eq_true]; exact ⟨x, h, by simp [ef_ss]⟩
  · rw [decide_eq_false h, List.any_eq_false]
    exact fun y hy => by
      simp only [Function.comp, ef_ss]
      have : ¬ y = x := fun z => h (by rw [← z]; exact hy)
      simp [this]
theorem in_strs (x : Str) (hs : List Str) (b : Nat) (c : List Cell) : inSem b c (.str x) (.tup (hs.map .str)) = some (decide (x ∈ hs)) := by
  rw [in_tup]
  have e1 : (hs.map D.str).all flat = true := by simp [List.all_eq_true, fl_str]
  rw [e1]
  simp only [fl_str, Bool.and_self, if_true, List.any_map]
  rw [any_strs]
theorem in_strsL (x : Str) (hs : List Str) (b : Nat) (c : List Cell) : inSem b c (.str x) (.lst (hs.map .str)) = some (decide (x ∈ hs)) := by
  rw [in_lst, ← in_strs x hs b c, in_tup]
structure Std where
  cols : List (Str × Option Int)
  rules : List (Str × Tst)
  act : List Str
def cD (p : Str × Option Int) : D := .tup [.str p.1, vD p.2]
def rD (p : Str × Tst) : D := .tup [.str p.1, p.2.d]
def wD (p : Str × Knd) : D := .tup [.str p.1, p.2.d]
def Std.prg (s : Std) : D := .ins "Stand" [("table", .tup (s.cols.map cD)), ("rules", .tup (s.rules.map rD)), ("active", .tup (s.act.map .str))]
def Std.law (s : Std) : D := .lst [.lst (s.cols.map cD), .lst (s.rules.map rD), .lst (s.act.map .str)]
def Std.heads (s : Std) : List Str := s.cols.map (·.1)
def Std.forced (s : Std) : List Str := s.rules.map (·.1)
mutual
theorem lay_closed : ∀ {k : Nat} {d : D} (b : Nat), lay k d = true → closed b d = true
  | _, .non, _, _ => rfl
  | _, .bl _, _, _ => rfl
  | _, .int _, _, _ => rfl
  | _, .str _, _, _ => rfl
  | 0, .tup xs, _, h => by simp [lay] at h
  | 0, .lst xs, _, h => by simp [lay] at h
  | k + 1, .tup xs, b, h => by unfold closed; exact layL_closed b (by simpa [lay] using h)
  | k + 1, .lst xs, b, h => by unfold closed; exact layL_closed b (by simpa [lay] using h)
  | k, .dic _, _, h => by cases k <;> simp [lay] at h
  | k, .ins _ _, _, h => by cases k <;> simp [lay] at h
  | k, .ref _, _, h => by cases k <;> simp [lay] at h
  | k, .cls _, _, h => by cases k <;> simp [lay] at h
  | k, .fn _, _, h => by cases k <;> simp [lay] at h
  | k, .lam _ _ _ _, _, h => by cases k <;> simp [lay] at h
  | k, .scr _, _, h => by cases k <;> simp [lay] at h
theorem layL_closed : ∀ {k : Nat} {ds : List D} (b : Nat), layL k ds = true → closedL b ds = true
  | _, [], _, _ => rfl
  | k, x :: xs, b, h => by
    obtain ⟨h1, h2⟩ := Bool.and_eq_true_iff.mp (show (lay k x && layL k xs) = true by simpa [layL] using h)
    unfold closedL
    rw [lay_closed b h1, layL_closed b h2]
    rfl
end
theorem lay_il {k : Nat} {d : D} (h : lay k d = true) : isLam d = false := by
  cases d <;> first | rfl | (cases k <;> simp [lay] at h)
theorem i_Stand : P.init "Stand" = some (some ("Stand.__init__" : Str)) := by kernel_rfl
theorem fl_table : P.fld "Stand" "table" = true := by kernel_rfl
theorem fl_rules : P.fld "Stand" "rules" = true := by kernel_rfl
theorem fl_active : P.fld "Stand" "active" = true := by kernel_rfl
theorem pr_table : P.prop "Stand" "table" = none := by kernel_rfl
theorem pr_rules : P.prop "Stand" "rules" = none := by kernel_rfl
theorem pr_active : P.prop "Stand" "active" = none := by kernel_rfl
theorem fo_cons (b : Nat) (c : List Cell) (k g f : Str) (d : D) (fs : List (Str × D)) : fieldOf b c (.ins k ((g, d) :: fs)) f = if f = g then some d else fieldOf b c (.ins k fs) f := by
  show List.lookup f ((g, d) :: fs) = if f = g then some d else List.lookup f fs
  rw [List.lookup_cons, str_beq]
  by_cases h : f = g
  · rw [if_pos h, decide_eq_true h]
  · rw [if_neg h, decide_eq_false h]
theorem ins_class (b : Nat) (c : List Cell) (k : Str) (fs : List (Str × D)) : classOf b c (.ins k fs) = some k := rfl
theorem ref_class (b : Nat) (c : List Cell) (n : Nat) : classOf b c (.ref n) = (match cellAt b c n with
  | some (.ins cn _) => some cn
  | _ => none) := rfl
theorem cell_last (b : Nat) (x : Cell) : cellAt b [x] b = some x := by simp [cellAt]
theorem set_last (b : Nat) (x y : Cell) : setC b [x] b y = [y] := by simp [setC]
theorem mk_Stand {k : Nat} {t r a : D} (ht : lay k t = true) (hr : lay k r = true) (ha : lay k a = true) (n b : Nat) (c : List Cell) : mkSem P (calls P (n+1)) "Stand" [t, r, a] b c = .ok (.ins "Stand" [("table", t), ("rules", r), ("active", a)]) c := by
  unfold mkSem
  rw [i_Stand]
  show (noExc ((calls P (n+1)).fn "Stand.__init__" (.ref (b + c.length) :: [t, r, a]) (b + c.length) [.ins "Stand" []])).bind _ = _
  rw [calls_keep f_Stand___init__ rfl rfl]
  dsimp! [c_Stand___init__, lay_il ht, lay_il hr, lay_il ha, cell_last, set_last, fl_table, fl_rules, fl_active, evS.putF, mkEnd, closedF, lay_closed _ ht, lay_closed _ hr, lay_closed _ ha]
theorem s_heads {s : Std} (hl : s.cols.length ≤ 100) (n b : Nat) (c : List Cell) : (calls P (n+1)).fn "Stand.heads" [s.prg] b c = .ok (.tup (s.heads.map .str)) c := by
  rw [calls_keep f_Stand_heads rfl rfl]
  dsimp! [c_Stand_heads, Std.prg, ins_class, pr_table, fl_table, fo_cons]
  rw [compL_mapT (f := fun p : Str × Option Int => .str p.1) (fun p _ => by dsimp! [cD]) (by simp [MP.sizeLine]; omega)]
  have h5 : s.cols.length ≤ 16777216 := by omega
  dsimp! [h5, Std.heads]
theorem s_forced {s : Std} (hl : s.rules.length ≤ 100) (n b : Nat) (c : List Cell) : (calls P (n+1)).fn "Stand.forced" [s.prg] b c = .ok (.tup (s.forced.map .str)) c := by
  rw [calls_keep f_Stand_forced rfl rfl]
  dsimp! [c_Stand_forced, Std.prg, ins_class, pr_rules, fl_rules, fo_cons]
  rw [compL_mapT (f := fun p : Str × Tst => .str p.1) (fun p _ => by dsimp! [rD]) (by simp [MP.sizeLine]; omega)]
  have h5 : s.rules.length ≤ 16777216 := by omega
  dsimp! [h5, Std.forced]
theorem p_heads : P.prop "Stand" "heads" = some "Stand.heads" := p_Stand_heads
theorem bools_map {α : Type} (f : α → Bool) : ∀ xs : List α, boolsOf (xs.map fun x => .bl (f x)) = some (xs.map f)
  | [] => rfl
  | x :: xs => by rw [List.map_cons, boolsOf, bools_map f xs]; rfl
theorem s_has_all {s : Std} (hl : s.cols.length ≤ 100) {xs : List Str} (hx : xs.length ≤ 100) (n b : Nat) (c : List Cell) : (calls P (n+2)).fn "Stand.has_all" [s.prg, .lst (xs.map .str)] b c = .ok (.bl (decide (∀ x ∈ xs, x ∈ s.heads))) c := by
  have e : decide (∀ x ∈ xs, x ∈ s.heads) = xs.all fun x => decide (x ∈ s.heads) := by
    by_cases z : ∀ x ∈ xs, x ∈ s.heads
    · rw [decide_eq_true z]; symm; rw [List.all_eq_true]; exact fun x hx => decide_eq_true (z x hx)
    · rw [decide_eq_false z]; symm; rw [Bool.eq_false_iff]; exact fun w => z fun x hx => of_decide_eq_true (List.all_eq_true.mp w x hx)
  rw [e, calls_keep f_Stand_has_all rfl rfl]
  have hp : isLam s.prg = false := rfl
  have hc : ∀ b c, classOf b c s.prg = some "Stand" := fun _ _ => rfl
  dsimp! [c_Stand_has_all]
  rw [compL_mapT (f := fun x : Str => .bl (decide (x ∈ s.heads))) (fun x _ => by dsimp! [hp, hc, p_heads, s_heads hl, any_strs]) (by simp [MP.sizeLine]; omega)]
  have h5 : xs.length ≤ 16777216 := by omega
  dsimp! [h5, bools_map]
end Hk01
end
section
set_option maxRecDepth 100000
set_option maxHeartbeats 1000000
namespace Hk01
open PySem MP
structure SOk (s : Std) : Prop where
  nm : ∀ p ∈ s.cols, Nm p.1
  nd : (s.cols.map (·.1)).Nodup
  one : 1 ≤ s.cols.length
  few : s.cols.length ≤ 4
  rn : ∀ p ∈ s.rules, Nm p.1 ∧ TOk p.2
  rl : s.rules.length ≤ 4
  an : ∀ x ∈ s.act, Nm x
  al : s.act.length ≤ 4
theorem lay_cols {cs : List (Str × Option Int)} (h : ∀ p ∈ cs, Nm p.1) {k : Nat} : lay (k + 2) (.tup (cs.map cD)) = true := lay_tup (layL_map fun p hp => lay_tup (layL_cons (lay_str (h p hp).st) (layL_cons (vD_lay _) layL_nil)))
theorem lay_rules {rs : List (Str × Tst)} (h : ∀ p ∈ rs, Nm p.1 ∧ TOk p.2) {k : Nat} : lay (k + 5) (.tup (rs.map rD)) = true := lay_tup (layL_map fun p hp => lay_tup (layL_cons (lay_str (h p hp).1.st) (layL_cons ((h p hp).2.lay (by omega)) layL_nil)))
theorem lay_act {xs : List Str} (h : ∀ x ∈ xs, Nm x) {k : Nat} : lay (k + 1) (.tup (xs.map .str)) = true := lay_tup (layL_map fun p hp => lay_str (h p hp).st)
theorem S_il (s : Std) : isLam s.prg = false := rfl
theorem S_cls (s : Std) (b : Nat) (c : List Cell) : classOf b c s.prg = some ("Stand" : Str) := rfl
theorem S_table (s : Std) (b : Nat) (c : List Cell) : fieldOf b c s.prg "table" = some (.tup (s.cols.map cD)) := by unfold Std.prg; rw [fo_cons, if_pos rfl]
theorem S_rules (s : Std) (b : Nat) (c : List Cell) : fieldOf b c s.prg "rules" = some (.tup (s.rules.map rD)) := by unfold Std.prg; rw [fo_cons, if_neg (by simp only [strEq, String.reduceEq]; exact fun z => z), fo_cons, if_pos rfl]
theorem S_active (s : Std) (b : Nat) (c : List Cell) : fieldOf b c s.prg "active" = some (.tup (s.act.map .str)) := by unfold Std.prg; rw [fo_cons, if_neg (by simp only [strEq, String.reduceEq]; exact fun z => z), fo_cons, if_neg (by simp only [strEq, String.reduceEq]; exact fun z => z), fo_cons, if_pos rfl]
theorem S_none (s : Std) (b : Nat) (c : List Cell) : fieldOf b c s.prg "has_all" = none := by
  unfold Std.prg
  rw [fo_cons, if_neg (by simp only [strEq, String.reduceEq]; exact fun z => z), fo_cons, if_neg (by simp only [strEq, String.reduceEq]; exact fun z => z), fo_cons, if_neg (by simp only [strEq, String.reduceEq]; exact fun z => z)]
  rfl
theorem p_forced : P.prop "Stand" "forced" = some "Stand.forced" := p_Stand_forced
theorem mk_S {cs : List (Str × Option Int)} {rs : List (Str × Tst)} {as : List Str} (h1 : ∀ p ∈ cs, Nm p.1) (h2 : ∀ p ∈ rs, Nm p.1 ∧ TOk p.2) (h3 : ∀ x ∈ as, Nm x) (n b : Nat) (c : List Cell) :
    mkSem P (calls P (n+1)) "Stand" [.tup (cs.map cD), .tup (rs.map rD), .tup (as.map .str)] b c = .ok (Std.prg ⟨cs, rs, as⟩) c := mk_Stand (k := 5) (lay_cols h1) (lay_rules h2) (lay_act h3) n b c
inductive Stp where
  | add (x : Str) (t : Tst) | look (x : Str) | drop (x : Str) | beg (x : Str) | fin (x : Str) | dfl (x : Str) (v : Option Int) | col (x : Str) (v : Option Int) | rem (x : Str) | fil (x : Str) (v : Option Int) (t : Tst)
def Stp.d : Stp → D
  | .add x t => .tup [.str "add", .str x, t.d]
  | .look x => .tup [.str "look", .str x]
  | .drop x => .tup [.str "drop", .str x]
  | .beg x => .tup [.str "begin", .str x]
  | .fin x => .tup [.str "end", .str x]
  | .dfl x v => .tup [.str "default", .str x, vD v]
  | .col x v => .tup [.str "column", .str x, vD v]
  | .rem x => .tup [.str "remove", .str x]
  | .fil x v t => .tup [.str "fill", .tup [.tup [.str x, vD v]], t.d]
def used (ws : List (Str × Knd)) (s : Std) : List Str := s.rules.flatMap (fun p => p.2.cols) ++ ws.flatMap fun p => if p.1 ∈ s.act then p.2.ment else []
def kindOf (ws : List (Str × Knd)) (x : Str) : Option Knd := (ws.find? fun p => decide (p.1 = x)).map (·.2)
/-- what is let behind a stand, and how it is there -/
def aft (ws : List (Str × Knd)) (s : Std) : Stp → Option Std
  | .add x t => if x ∈ s.forced ∨ s.rules.length = 4 then none else some ⟨s.cols, s.rules ++ [(x, t)], s.act⟩
  | .look x => if x ∈ s.forced then some s else none
  | .drop x => if x ∈ s.forced then some ⟨s.cols, s.rules.filter fun p => decide (p.1 ≠ x), s.act⟩ else none
  | .fin x => some ⟨s.cols, s.rules, s.act.filter fun y => decide (y ≠ x)⟩
  | .beg x => (kindOf ws x).bind fun k => if ∀ y ∈ k.ment, y ∈ s.heads then some ⟨s.cols, s.rules, (ws.map (·.1)).filter fun y => decide (y ∈ s.act ++ [x])⟩ else none
  | .dfl x v => some ⟨s.cols.map fun p => (p.1, if p.1 = x then v else p.2), s.rules, s.act⟩
  | .col x v => if x ∉ s.heads ∧ s.cols.length < 4 then some ⟨s.cols ++ [(x, v)], s.rules, s.act⟩ else none
  | .rem x => if x ∉ used ws s ∧ s.cols.length ≠ 1 then some ⟨s.cols.filter fun p => decide (p.1 ≠ x), s.rules, s.act⟩ else none
  | .fil _ _ _ => some s
/-- what may be drawn at a stand -/
def Drawn (ws : List (Str × Knd)) (s : Std) : Stp → Prop
  | .add x t => Nm x ∧ TOk t ∧ ∀ y ∈ t.cols, y ∈ s.heads
  | .look x => Nm x
  | .drop x => Nm x
  | .beg x => Nm x ∧ x ∈ ws.map (·.1) ∧ x ∉ s.act
  | .fin x => Nm x ∧ x ∈ ws.map (·.1) ∧ x ∈ s.act
  | .dfl x v => Nm x ∧ x ∈ s.heads ∧ vOk v
  | .col x v => Nm x ∧ vOk v
  | .rem x => Nm x ∧ x ∈ s.heads
  | .fil x v t => Nm x ∧ x ∈ s.heads ∧ vOk v ∧ TOk t ∧ ∀ y ∈ t.cols, y ∈ s.heads
structure WOk (ws : List (Str × Knd)) : Prop where
  nm : ∀ p ∈ ws, Nm p.1
  ok : ∀ p ∈ ws, p.2.ok
  nd : (ws.map (·.1)).Nodup
  few : ws.length ≤ 3
def oD (o : Option Std) : D := match o with
  | none => .non
  | some s => s.prg
theorem heads_len (s : Std) : s.heads.length = s.cols.length := by simp [Std.heads]
theorem fm_not {α : Type} (q : α → Prop) [DecidablePred q] (e : α → D) : ∀ xs : List α, (xs.filterMap fun p => if q p then none else some (e p)) = (xs.filter fun p => !decide (q p)).map e
  | [] => rfl
  | x :: xs => by
    rw [List.filterMap_cons, List.filter_cons]
    by_cases h : q x
    · simp only [h, if_true, decide_true, Bool.not_true, fm_not q e xs]; rfl
    · simp only [h, if_false, decide_false, Bool.not_false, fm_not q e xs]; rfl
theorem fm_yes {α : Type} (q : α → Prop) [DecidablePred q] (e : α → D) : ∀ xs : List α, (xs.filterMap fun p => if q p then some (e p) else none) = (xs.filter fun p => decide (q p)).map e
  | [] => rfl
  | x :: xs => by
    rw [List.filterMap_cons, List.filter_cons]
    by_cases h : q x
    · simp only [h, if_true, decide_true, fm_yes q e xs]; rfl
    · simp only [h, if_false, decide_false, fm_yes q e xs]; rfl
theorem fil_len {α : Type} {q : α → Bool} {xs : List α} {n : Nat} (h : xs.length ≤ n) : (xs.filter q).length ≤ n := Nat.le_trans (List.length_filter_le _ _) h
theorem s_after_rule {ws : List (Str × Knd)} {s : Std} (h : SOk s) {st : Stp} (hd : Drawn ws s st) (hk : match st with | .add _ _ | .look _ | .drop _ => True | _ => False) (n b : Nat) (c : List Cell) : (calls P (n + 11)).fn "after_rule" [s.prg, st.d] b c = .ok (oD (aft ws s st)) c := by
  rw [calls_keep f_after_rule rfl rfl]
  have hf := s_forced (s := s) (by have := h.rl; omega)
  have hh := s_heads (s := s) (by have := h.few; omega)
  have h5 := h.rl
  cases st with
  | add x t =>
    obtain ⟨d1, d2, d3⟩ := hd
    have i1 := s_is_test (cols_tup s.heads fun _ _ => trivial) d2.ok (by have := d2.deep; omega) (by have := d2.plain; omega) d3 n b c
    by_cases c1 : x ∈ s.forced
    · dsimp! [c_after_rule, Stp.d, eq_str, d1.st, s_is_name d1, S_il, S_cls, p_forced, hf, any_strs, c1, aft, oD]
    · by_cases c2 : s.rules.length = 4
      · dsimp! [c_after_rule, Stp.d, eq_str, d1.st, s_is_name d1, S_il, S_cls, p_forced, hf, any_strs, c1, pr_rules, fl_rules, S_rules, eq_int, c2, aft, oD]
      · have h6 : s.rules.length + 1 ≤ 16777216 := by omega
        have c3 : ¬ (s.rules.length : Int) = 4 := by omega
        dsimp! [c_after_rule, Stp.d, eq_str, d1.st, s_is_name d1, S_il, S_cls, p_forced, hf, any_strs, c1, pr_rules, fl_rules, S_rules, eq_int, c2, c3, p_heads, hh, Tst.il, i1, pr_table, fl_table, S_table, pr_active, fl_active, S_active, h6]
        have m := mk_S (cs := s.cols) (rs := s.rules ++ [(x, t)]) (as := s.act) h.nm (fun p hp => by
          rcases List.mem_append.mp hp with z | z
          · exact h.rn p z
          · rw [List.mem_singleton.mp z]; exact ⟨d1, d2⟩) h.an (n + 9) b c
        simp only [List.map_append, List.map_cons, List.map_nil, rD] at m
        dsimp! [m, aft, c1, c2, oD]
  | look x =>
    have d1 : Nm x := hd
    by_cases c1 : x ∈ s.forced
    · dsimp! [c_after_rule, Stp.d, eq_str, d1.st, S_il, S_cls, p_forced, hf, any_strs, c1, aft, oD]
    · dsimp! [c_after_rule, Stp.d, eq_str, d1.st, S_il, S_cls, p_forced, hf, any_strs, c1, aft, oD]
  | drop x =>
    have d1 : Nm x := hd
    by_cases c1 : x ∈ s.forced
    · dsimp! [c_after_rule, Stp.d, eq_str, d1.st, S_il, S_cls, p_forced, hf, any_strs, c1, pr_table, fl_table, S_table, pr_rules, fl_rules, S_rules]
      rw [compL_filT (f := fun p : Str × Tst => if p.1 = x then none else some (rD p)) (fun p hp => by
        have q := (h.rn p hp).1.st
        by_cases e : p.1 = x
        · subst e
          dsimp! [rD, eq_str, q]
        · dsimp! [rD, eq_str, q, d1.st, e]) (by simp [MP.sizeLine]; omega)]
      rw [fm_not (fun p : Str × Tst => p.1 = x)]
      have h6 := fil_len (q := fun p : Str × Tst => !decide (p.1 = x)) (show s.rules.length ≤ 16777216 by omega)
      have m := mk_S (cs := s.cols) (rs := s.rules.filter fun p => !decide (p.1 = x)) (as := s.act) h.nm (fun p hp => h.rn p (List.mem_filter.mp hp).1) h.an (n + 9) b c
      dsimp! [h6, pr_active, fl_active, S_active, S_il, S_cls]
      dsimp! [m, aft, c1, oD]
    · dsimp! [c_after_rule, Stp.d, eq_str, d1.st, S_il, S_cls, p_forced, hf, any_strs, c1, aft, oD]
  | _ => exact hk.elim
theorem lk_cons {α : Type} (z k : Str) (v : α) (r : List (Str × α)) : List.lookup z ((k, v) :: r) = if z = k then some v else List.lookup z r := by
  rw [List.lookup_cons, str_beq]
  by_cases h : z = k
  · rw [if_pos h, decide_eq_true h]
  · rw [if_neg h, decide_eq_false h]
theorem s_is_shaped {ws : List (Str × Knd)} {s : Std} {st : Stp} (hd : Drawn ws s st) (n b : Nat) (c : List Cell) : (calls P (n + 1)).fn "is_shaped" [st.d] b c = .ok (.bl true) c := by
  rw [calls_keep f_is_shaped rfl rfl]
  have go : ∀ {x : D} {xs : List D}, layL 4 (x :: xs) = true → ∀ b c, eqSem b c (.tup (x :: xs)) (.tup []) = some false := fun hl b c => not_empty (k := 5) (lay_tup hl) (by omega) b c
  cases st with
  | add x t =>
    have hl := go (layL_cons (x := .str "add") lay_lit (layL_cons (lay_str (x := x) hd.1.st) (layL_cons (hd.2.1.lay (t := t) (by omega)) layL_nil)))
    dsimp! [c_is_shaped, Stp.d, eq_str, eq_int, hl, lk_cons]
  | look x =>
    have hl := go (layL_cons (x := .str "look") lay_lit (layL_cons (lay_str (x := x) (Nm.st hd)) layL_nil))
    dsimp! [c_is_shaped, Stp.d, eq_str, eq_int, hl, lk_cons]
  | drop x =>
    have hl := go (layL_cons (x := .str "drop") lay_lit (layL_cons (lay_str (x := x) (Nm.st hd)) layL_nil))
    dsimp! [c_is_shaped, Stp.d, eq_str, eq_int, hl, lk_cons]
  | beg x =>
    have hl := go (layL_cons (x := .str "begin") lay_lit (layL_cons (lay_str (x := x) hd.1.st) layL_nil))
    dsimp! [c_is_shaped, Stp.d, eq_str, eq_int, hl, lk_cons]
  | fin x =>
    have hl := go (layL_cons (x := .str "end") lay_lit (layL_cons (lay_str (x := x) hd.1.st) layL_nil))
    dsimp! [c_is_shaped, Stp.d, eq_str, eq_int, hl, lk_cons]
  | dfl x v =>
    have hl := go (layL_cons (x := .str "default") lay_lit (layL_cons (lay_str (x := x) hd.1.st) (layL_cons (vD_lay v) layL_nil)))
    dsimp! [c_is_shaped, Stp.d, eq_str, eq_int, hl, lk_cons]
  | col x v =>
    have hl := go (layL_cons (x := .str "column") lay_lit (layL_cons (lay_str (x := x) hd.1.st) (layL_cons (vD_lay v) layL_nil)))
    dsimp! [c_is_shaped, Stp.d, eq_str, eq_int, hl, lk_cons]
  | rem x =>
    have hl := go (layL_cons (x := .str "remove") lay_lit (layL_cons (lay_str (x := x) hd.1.st) layL_nil))
    dsimp! [c_is_shaped, Stp.d, eq_str, eq_int, hl, lk_cons]
  | fil x v t =>
    have hl := go (layL_cons (x := .str "fill") lay_lit (layL_cons (x := .tup [.tup [.str x, vD v]]) (lay_tup (layL_cons (lay_tup (layL_cons (lay_str hd.1.st) (layL_cons (vD_lay v) layL_nil))) layL_nil)) (layL_cons (hd.2.2.2.1.lay (t := t) (by omega)) layL_nil)))
    dsimp! [c_is_shaped, Stp.d, eq_str, eq_int, hl, lk_cons]
def wdic (ws : List (Str × Knd)) : D := .dic (ws.map fun p => (.str p.1, p.2.d))
theorem wdic_il (ws : List (Str × Knd)) : isLam (wdic ws) = false := rfl
theorem wdic_of {ws : List (Str × Knd)} (h : WOk ws) (b : Nat) (c : List Cell) : bltSem .dict [.tup (ws.map wD)] b c = some (wdic ws) := dict_tup (fun k : Knd => k.d) h.nd b c
theorem wdic_NotIn (call : Call) (ws : List (Str × Knd)) (x : Str) (b : Nat) (c : List Cell) : cmpX P call .NotIn (.str x) (wdic ws) b c = .ok (.bl (!decide (x ∈ ws.map (·.1)))) c := by
  unfold wdic
  rw [cx_NotIn_dic, cs_NotIn, in_dicT (fun k : Knd => k.d)]
  rfl
theorem wdic_ix (ws : List (Str × Knd)) (x : Str) (b : Nat) (c : List Cell) : ixSem b c (wdic ws) (.str x) = (kindOf ws x).map Knd.d := by
  unfold wdic kindOf
  rw [ix_dicT (fun k : Knd => k.d), Option.map_map]
  rfl
theorem eq_bl (x y : Bool) (b : Nat) (c : List Cell) : eqSem b c (.bl x) (.bl y) = some (decide (x = y)) := by
  rw [eqSem_lay (k := 0) (m := 0) rfl rfl]; simp only [eqD, eqF]; cases x <;> cases y <;> rfl
theorem kindOf_mem {ws : List (Str × Knd)} {x : Str} (h : x ∈ ws.map (·.1)) : ∃ k, kindOf ws x = some k ∧ ∃ p ∈ ws, p.1 = x ∧ p.2 = k := by
  obtain ⟨p, hp, rfl⟩ := List.mem_map.mp h
  have hs : (ws.find? fun q => decide (q.1 = p.1)).isSome = true := by rw [List.find?_isSome]; exact ⟨p, hp, by simp⟩
  obtain ⟨q, hq⟩ := Option.isSome_iff_exists.mp hs
  exact ⟨q.2, by unfold kindOf; rw [hq]; rfl, q, List.mem_of_find?_eq_some hq, of_decide_eq_true (List.find?_some (p := fun q : Str × Knd => decide (q.1 = p.1)) hq), rfl⟩
theorem ment_len {k : Knd} (h : k.ok) : k.ment.length ≤ 8 := by
  have cl : ∀ {t : Tst}, TOk t → t.cols.length ≤ 2 := fun {t} ht => Nat.le_trans (Tst.lenc t) ht.plain
  cases k with
  | ins ps t => have := h.1.few; have := cl h.2; simp only [Knd.ment, List.length_append, List.length_map]; omega
  | upd ps t u => have := h.1.few; have := cl h.2.2.1; have := cl h.2.2.2; simp only [Knd.ment, List.length_append, List.length_map]; omega
  | del t => have := cl h; simp only [Knd.ment]; omega
theorem fm_names (ws : List (Str × Knd)) (q : Str → Prop) [DecidablePred q] : (ws.filterMap fun p => if q p.1 then some (D.str p.1) else none) = ((ws.map (·.1)).filter fun y => decide (q y)).map .str := by
  rw [fm_yes (fun p : Str × Knd => q p.1) (fun p => D.str p.1), List.filter_map, List.map_map]
  rfl
theorem s_after_writer {ws : List (Str × Knd)} (hw : WOk ws) {s : Std} (h : SOk s) {st : Stp} (hd : Drawn ws s st) (hk : match st with | .beg _ | .fin _ => True | _ => False) (n b : Nat) (c : List Cell) : (calls P (n + 9)).fn "after_writer" [s.prg, st.d, .tup (ws.map wD)] b c = .ok (oD (aft ws s st)) c := by
  rw [calls_keep f_after_writer rfl rfl]
  have h4 := h.al
  cases st with
  | fin x =>
    obtain ⟨d1, d2, d3⟩ := hd
    dsimp! [c_after_writer, Stp.d, eq_str, d1.st, S_il, S_cls, pr_active, fl_active, S_active, wdic_of hw, wdic_il, wdic_NotIn, d2, any_strs, d3, eq_bl, pr_table, fl_table, S_table, pr_rules, fl_rules, S_rules]
    rw [compL_filT (f := fun y : Str => if y = x then none else some (.str y)) (fun y hy => by
      have q := (h.an y hy).st
      by_cases e : y = x
      · subst e
        dsimp! [eq_str, q, wdic_il]
      · dsimp! [eq_str, q, d1.st, e, wdic_il]) (by simp [MP.sizeLine]; omega)]
    rw [fm_not (fun y : Str => y = x)]
    have h6 := fil_len (q := fun y : Str => !decide (y = x)) (show s.act.length ≤ 16777216 by omega)
    have m := mk_S (cs := s.cols) (rs := s.rules) (as := s.act.filter fun y => !decide (y = x)) h.nm h.rn (fun y hy => h.an y (List.mem_filter.mp hy).1) (n + 7) b c
    dsimp! [h6, m, aft, oD]
  | beg x =>
    obtain ⟨d1, d2, d3⟩ := hd
    obtain ⟨k, k1, p, kp, k2, k3⟩ := kindOf_mem d2
    have ko : k.ok := by rw [← k3]; exact hw.ok p kp
    have kl := ment_len ko
    have ha : ∀ n b c, (calls P (n+2)).fn "Stand.has_all" [s.prg, .lst (k.ment.map .str)] b c = .ok (.bl (decide (∀ x ∈ k.ment, x ∈ s.heads))) c := s_has_all (s := s) (by have := h.few; omega) (xs := k.ment) (by omega)
    have m1 := s_mentioned ko
    have pm : P.meth "Stand" "has_all" = some "Stand.has_all" := p_Stand_has_all
    by_cases c1 : ∀ y ∈ k.ment, y ∈ s.heads
    · simp only [decide_eq_true c1] at ha
      have h6 : s.act.length + 1 ≤ 16777216 := by omega
      dsimp! [c_after_writer, Stp.d, eq_str, d1.st, S_il, S_cls, pr_active, fl_active, S_active, wdic_of hw, wdic_il, wdic_NotIn, d2, any_strs, d3, eq_bl, wdic_ix, k1, Knd.il, m1, pm, S_none, ha, h6, pr_table, fl_table, S_table, pr_rules, fl_rules, S_rules]
      rw [compL_filT (f := fun p : Str × Knd => if (p.1 ∈ s.act ∨ x = p.1) then some (.str p.1) else none) (fun p hp => by
        by_cases e : p.1 ∈ s.act
        · dsimp! [wD, wdic_il, any_strs, e]
        · by_cases e2 : x = p.1
          · dsimp! [wD, wdic_il, any_strs, e, e2]
          · dsimp! [wD, wdic_il, any_strs, e, e2]) (by have := hw.few; simp [MP.sizeLine]; omega)]
      rw [fm_names ws fun y => y ∈ s.act ∨ x = y]
      have h7 := fil_len (q := fun y : Str => decide (y ∈ s.act ∨ x = y)) (xs := ws.map (·.1)) (n := 16777216) (by have := hw.few; simp; omega)
      have m := mk_S (cs := s.cols) (rs := s.rules) (as := (ws.map (·.1)).filter fun y => decide (y ∈ s.act ∨ x = y)) h.nm h.rn (fun y hy => by
        obtain ⟨q, hq, rfl⟩ := List.mem_map.mp (List.mem_filter.mp hy).1
        exact hw.nm q hq) (n + 7) b c
      have e9 : aft ws s (.beg x) = some ⟨s.cols, s.rules, (ws.map (·.1)).filter fun y => decide (y ∈ s.act ∨ x = y)⟩ := by
        simp only [aft, k1, Option.bind_some, if_pos c1]
        congr 4
        funext y
        simp [eq_comm]
      rw [e9]
      generalize hz : ((ws.map (·.1)).filter fun y => decide (y ∈ s.act ∨ x = y)) = zs at h7 m ⊢
      dsimp! [h7, m, oD]
    · simp only [decide_eq_false c1] at ha
      dsimp! [c_after_writer, Stp.d, eq_str, d1.st, S_il, S_cls, pr_active, fl_active, S_active, wdic_of hw, wdic_il, wdic_NotIn, d2, any_strs, d3, eq_bl, wdic_ix, k1, Knd.il, m1, pm, S_none, ha]
      simp only [aft, k1, Option.bind_some, if_neg c1, oD]
  | _ => exact hk.elim
theorem flat_len {α : Type} {f : α → List Str} {m : Nat} : ∀ {xs : List α}, (∀ x ∈ xs, (f x).length ≤ m) → (xs.flatMap f).length ≤ m * xs.length
  | [], _ => by simp
  | x :: xs, h => by
    have h1 := h x (List.mem_cons_self ..)
    have h2 := flat_len (xs := xs) fun y hy => h y (List.mem_cons_of_mem _ hy)
    rw [List.flatMap_cons, List.length_append, List.length_cons, Nat.mul_add]
    omega
theorem flat_str {α : Type} (f : α → List Str) (xs : List α) : (xs.flatMap fun x => (f x).map D.str) = (xs.flatMap f).map .str := by rw [List.map_flatMap]
theorem used_len {ws : List (Str × Knd)} (hw : WOk ws) {s : Std} (h : SOk s) : (s.rules.flatMap fun p => p.2.cols).length ≤ 8 ∧ (ws.flatMap fun p => if p.1 ∈ s.act then p.2.ment else []).length ≤ 24 := by
  have h1 := flat_len (f := fun p : Str × Tst => p.2.cols) (m := 2) (xs := s.rules) fun p hp => Nat.le_trans (Tst.lenc _) (h.rn p hp).2.plain
  have h2 := flat_len (f := fun p : Str × Knd => if p.1 ∈ s.act then p.2.ment else []) (m := 8) (xs := ws) fun p hp => by
    by_cases e : p.1 ∈ s.act
    · simp only [if_pos e]; exact ment_len (hw.ok p hp)
    · simp only [if_neg e]; simp
  have := h.rl
  have := hw.few
  exact ⟨by omega, by omega⟩
theorem s_after_column {ws : List (Str × Knd)} (hw : WOk ws) {s : Std} (h : SOk s) {st : Stp} (hd : Drawn ws s st) (hk : match st with | .dfl _ _ | .col _ _ | .rem _ => True | _ => False) (n b : Nat) (c : List Cell) : (calls P (n + 9)).fn "after_column" [s.prg, st.d, .tup (ws.map wD)] b c = .ok (oD (aft ws s st)) c := by
  rw [calls_keep f_after_column rfl rfl]
  have h4 := h.few
  have hh := s_heads (s := s) (by omega)
  cases st with
  | dfl x v =>
    obtain ⟨d1, d2, d3⟩ := hd
    have cn : ∀ n b c, (calls P (n+3)).fn "is_constant" [vD v] b c = .ok (.bl true) c := fun n b c => s_is_constant n d3 b c
    dsimp! [c_after_column, Stp.d, eq_str, d1.st, S_il, S_cls, vD_il, cn, p_heads, hh, any_strs, d2, pr_table, fl_table, S_table]
    rw [compL_mapT (f := fun p : Str × Option Int => cD (p.1, if p.1 = x then v else p.2)) (fun p hp => by
      have q := (h.nm p hp).st
      by_cases e : p.1 = x
      · subst e
        dsimp! [cD, eq_str, q, vD_il, S_il]
      · dsimp! [cD, eq_str, q, d1.st, e, vD_il, S_il]) (by simp [MP.sizeLine]; omega)]
    have h6 : s.cols.length ≤ 16777216 := by omega
    have m := mk_S (cs := s.cols.map fun p => (p.1, if p.1 = x then v else p.2)) (rs := s.rules) (as := s.act) (fun p hp => by
      obtain ⟨q, hq, rfl⟩ := List.mem_map.mp hp
      exact h.nm q hq) h.rn h.an (n + 7) b c
    rw [List.map_map] at m
    have e1 : (cD ∘ fun p : Str × Option Int => (p.1, if p.1 = x then v else p.2)) = fun p => cD (p.1, if p.1 = x then v else p.2) := rfl
    rw [e1] at m
    dsimp! [h6, S_il, S_cls, pr_rules, fl_rules, S_rules, pr_active, fl_active, S_active, m, aft, oD]
  | col x v =>
    obtain ⟨d1, d3⟩ := hd
    have cn : ∀ n b c, (calls P (n+3)).fn "is_constant" [vD v] b c = .ok (.bl true) c := fun n b c => s_is_constant n d3 b c
    by_cases c1 : x ∈ s.heads
    · dsimp! [c_after_column, Stp.d, eq_str, d1.st, S_il, S_cls, vD_il, cn, p_heads, hh, any_strs, s_is_name d1, c1, aft, oD]
    · by_cases c2 : s.cols.length = 4
      · have c3 : s.heads.length = 4 := by rw [heads_len]; exact c2
        dsimp! [c_after_column, Stp.d, eq_str, d1.st, S_il, S_cls, vD_il, cn, p_heads, hh, any_strs, s_is_name d1, c1, eq_int, c3, c2, aft, oD]
      · have c3 : ¬ (s.heads.length : Int) = 4 := by rw [heads_len]; omega
        have c4 : s.cols.length < 4 := by omega
        have h6 : s.cols.length + 1 ≤ 16777216 := by omega
        dsimp! [c_after_column, Stp.d, eq_str, d1.st, S_il, S_cls, vD_il, cn, p_heads, hh, any_strs, s_is_name d1, c1, eq_int, c3, pr_table, fl_table, S_table, pr_rules, fl_rules, S_rules, pr_active, fl_active, S_active, h6]
        have m := mk_S (cs := s.cols ++ [(x, v)]) (rs := s.rules) (as := s.act) (fun p hp => by
          rcases List.mem_append.mp hp with z | z
          · exact h.nm p z
          · rw [List.mem_singleton.mp z]; exact d1) h.rn h.an (n + 7) b c
        simp only [List.map_append, List.map_cons, List.map_nil, cD] at m
        dsimp! [m, aft, c1, c4, oD]
  | rem x =>
    obtain ⟨d1, d2⟩ := hd
    obtain ⟨u1, u2⟩ := used_len hw h
    have ci : ∀ {t : Tst}, TOk t → (calls P (n + 8)).fn "columns_in" [t.d] b c = .ok (.lst (t.cols.map .str)) c := fun {t} ht => s_columns_in ht.ok 3 (n + 5) b c ht.deep (by have := ht.plain; omega)
    have mi : ∀ {k : Knd}, k.ok → (calls P (n + 8)).fn "mentioned" [k.d] b c = .ok (.lst (k.ment.map .str)) c := fun {k} hk => s_mentioned hk (n + 3) b c
    dsimp! [c_after_column, Stp.d, eq_str, d1.st, S_il, S_cls, pr_rules, fl_rules, S_rules]
    rw [foldL_app (e := rD) (f := fun p : Str × Tst => p.2.cols.map .str) (fun p hp acc hl => by
      dsimp! [rD, ci (h.rn p hp).2, Tst.il, S_il]
      rw [comp_id (fun y _ => by dsimp! [S_il]) (by simpa using hl)]) (by simp [MP.sizeLine] at *; omega)]
    rw [flat_str fun p : Str × Tst => p.2.cols]
    generalize hu : (s.rules.flatMap fun p : Str × Tst => p.2.cols) = us at u1
    have h6 : us.length ≤ 16777216 := by omega
    dsimp! [h6, S_il, S_cls]
    rw [foldL_app (e := wD) (f := fun p : Str × Knd => (if p.1 ∈ s.act then p.2.ment else []).map .str) (fun p hp acc hl => by
      by_cases e : p.1 ∈ s.act
      · simp only [if_pos e] at hl ⊢
        dsimp! [wD, S_il, S_cls, pr_active, fl_active, S_active, any_strs, e, mi (hw.ok p hp), Knd.il]
        rw [comp_id (fun y _ => by dsimp! [S_il]) (by simpa using hl)]
      · simp only [if_neg e]
        dsimp! [wD, S_il, S_cls, pr_active, fl_active, S_active, any_strs, e]) (by rw [flat_str fun p : Str × Knd => if p.1 ∈ s.act then p.2.ment else []]; simp [MP.sizeLine] at *; omega)]
    rw [flat_str fun p : Str × Knd => if p.1 ∈ s.act then p.2.ment else []]
    generalize hv : (ws.flatMap fun p : Str × Knd => if p.1 ∈ s.act then p.2.ment else []) = vs at u2
    have hus : used ws s = us ++ vs := by rw [← hu, ← hv]; rfl
    have h7 : vs.length ≤ 16777216 := by omega
    have h8 : us.length + vs.length ≤ 16777216 := by omega
    by_cases c1 : s.cols.length = 1
    · have c3 : s.heads.length = 1 := by rw [heads_len]; exact c1
      dsimp! [h7, h8, S_il, S_cls, p_heads, hh, any_strs, d2, eq_int, c3, c1, aft, oD]
    · have c3 : ¬ (s.heads.length : Int) = 1 := by rw [heads_len]; omega
      by_cases c2 : x ∈ us ++ vs
      · have c4 : x ∈ us ∨ x ∈ vs := List.mem_append.mp c2
        dsimp! [h7, h8, S_il, S_cls, p_heads, hh, any_strs, d2, eq_int, c3, c4, c1, aft, oD, hus]
      · have c4 : ¬ x ∈ us ∧ ¬ x ∈ vs := ⟨fun z => c2 (List.mem_append_left _ z), fun z => c2 (List.mem_append_right _ z)⟩
        dsimp! [h7, h8, S_il, S_cls, p_heads, hh, any_strs, d2, eq_int, c3, c4.1, c4.2, pr_table, fl_table, S_table]
        rw [compL_filT (f := fun p : Str × Option Int => if p.1 = x then none else some (cD p)) (fun p hp => by
          have q := (h.nm p hp).st
          by_cases e : p.1 = x
          · subst e
            dsimp! [cD, eq_str, q, S_il]
          · dsimp! [cD, eq_str, q, d1.st, e, S_il]) (by simp [MP.sizeLine]; omega)]
        rw [fm_not (fun p : Str × Option Int => p.1 = x)]
        have h9 := fil_len (q := fun p : Str × Option Int => !decide (p.1 = x)) (show s.cols.length ≤ 16777216 by omega)
        have m := mk_S (cs := s.cols.filter fun p => !decide (p.1 = x)) (rs := s.rules) (as := s.act) (fun p hp => h.nm p (List.mem_filter.mp hp).1) h.rn h.an (n + 7) b c
        dsimp! [h9, S_il, S_cls, pr_rules, fl_rules, S_rules, pr_active, fl_active, S_active, m, aft, hus, c1, c4.1, c4.2, oD]
  | _ => exact hk.elim
/-- what is behind a step that was drawn -/
theorem s_after {ws : List (Str × Knd)} (hw : WOk ws) {s : Std} (h : SOk s) {st : Stp} (hd : Drawn ws s st) (n b : Nat) (c : List Cell) : (calls P (n + 12)).fn "after" [s.prg, st.d, .tup (ws.map wD)] b c = .ok (oD (aft ws s st)) c := by
  rw [calls_keep f_after rfl rfl]
  have sh : ∀ b c, (calls P (n + 11)).fn "is_shaped" [st.d] b c = .ok (.bl true) c := fun b c => s_is_shaped hd (n + 10) b c
  have sil : isLam st.d = false := by cases st <;> rfl
  cases st with
  | add x t =>
    have r := s_after_rule h hd trivial n b c
    simp only [Stp.d] at sh r
    dsimp! [c_after, Stp.d, sh, eq_str, S_il, r]
  | look x =>
    have r := s_after_rule h hd trivial n b c
    simp only [Stp.d] at sh r
    dsimp! [c_after, Stp.d, sh, eq_str, S_il, r]
  | drop x =>
    have r := s_after_rule h hd trivial n b c
    simp only [Stp.d] at sh r
    dsimp! [c_after, Stp.d, sh, eq_str, S_il, r]
  | beg x =>
    have r := s_after_writer hw h hd trivial (n + 2) b c
    simp only [Stp.d] at sh r
    dsimp! [c_after, Stp.d, sh, eq_str, S_il, r]
  | fin x =>
    have r := s_after_writer hw h hd trivial (n + 2) b c
    simp only [Stp.d] at sh r
    dsimp! [c_after, Stp.d, sh, eq_str, S_il, r]
  | dfl x v =>
    have r := s_after_column hw h hd trivial (n + 2) b c
    simp only [Stp.d] at sh r
    dsimp! [c_after, Stp.d, sh, eq_str, S_il, r]
  | col x v =>
    have r := s_after_column hw h hd trivial (n + 2) b c
    simp only [Stp.d] at sh r
    dsimp! [c_after, Stp.d, sh, eq_str, S_il, r]
  | rem x =>
    have r := s_after_column hw h hd trivial (n + 2) b c
    simp only [Stp.d] at sh r
    dsimp! [c_after, Stp.d, sh, eq_str, S_il, r]
  | fil x v t =>
    obtain ⟨d1, d2, d3, d4, d5⟩ := hd
    have hh := s_heads (s := s) (by have := h.few; omega)
    have ap := s_are_pairs (ps := [(x, .val v)]) (srcs := false) ⟨fun p hp => by rw [List.mem_singleton.mp hp]; exact d1, fun p hp => by rw [List.mem_singleton.mp hp]; exact d3, fun _ p hp => by rw [List.mem_singleton.mp hp]; exact fun z => (nomatch z), by simp, by simp⟩ (l := 1) (by simp) (n + 7) b c
    have ap2 : (calls P (n + 11)).fn "are_pairs" [.tup [.tup [.str x, vD v]], .int 1, .bl false] b c = .ok (.bl true) c := ap
    have ha : ∀ n b c, (calls P (n+2)).fn "Stand.has_all" [s.prg, .lst [.str x]] b c = .ok (.bl true) c := fun n b c => by
      have := s_has_all (s := s) (by have := h.few; omega) (xs := [x]) (by simp) n b c
      rw [decide_eq_true (by intro y hy; rw [List.mem_singleton.mp hy]; exact d2)] at this
      exact this
    have it := s_is_test (cols_tup s.heads fun _ _ => trivial) d4.ok (by have := d4.deep; omega) (by have := d4.plain; omega) d5 (n + 1) b c
    have pm : P.meth "Stand" "has_all" = some "Stand.has_all" := p_Stand_has_all
    simp only [Stp.d] at sh
    dsimp! [c_after, Stp.d, sh, eq_str, S_il, ap2, S_cls, pm, S_none, ha, p_heads, hh, it, Tst.il, aft, oD]
end Hk01
end
section
set_option maxRecDepth 100000
set_option maxHeartbeats 1000000
namespace Hk01
open PySem MP
theorem for_enum {α β : Type} {step : D → MP.Env → Nat → List Cell → Res Fl} {b : Nat} {c : List Cell} {e : α → D} {k : Fl → List Cell → Res β} {r : Res β} (I : MP.Env → Prop) {xs : List α} {γ : MP.Env} (h0 : I γ)
    (hs : ∀ pre x post, xs = pre ++ x :: post → ∀ γ, I γ → Goes (step (.tup [.int (pre.length : Int), e x]) γ b c) c I) (hk : ∀ γ, I γ → k (.nx γ) c = r) : (forL step b (enumD 0 (xs.map e)) γ c).bind k = r := by
  have go : ∀ (post pre : List α) (γ : MP.Env), xs = pre ++ post → I γ → (forL step b (enumD (pre.length : Int) (post.map e)) γ c).bind k = r := by
    intro post
    induction post with
    | nil => intro pre γ _ hi; exact hk γ hi
    | cons x post ih =>
      intro pre γ he hi
      obtain ⟨γ1, h1, h2⟩ := goes_of (hs pre x post he γ hi)
      rw [List.map_cons, enumD, forL, h1, Res.bind_ok]
      have := ih (pre ++ [x]) γ1 (by rw [he]; simp) h2
      rw [List.length_append] at this
      exact this
  exact go xs [] γ rfl h0
theorem take_pre {α : Type} {xs pre post : List α} {x : α} (e : α → D) (h : xs = pre ++ x :: post) : cutD (xs.map e) none (some (pre.length : Int)) = pre.map e := by
  rw [sl_to, h, List.map_append, List.take_append_of_le_length (by simp), List.take_of_length_le (by simp)]
theorem s_wrong_fn {α : Type} {f : Str} {F : Fun} {e : α → D} {xs : List α} {n most : Nat} (hF : P.fun? f = some F) (hl : xs.length ≤ most) (hi : ∀ x ∈ xs, isLam (e x) = false) (b : Nat) (c : List Cell)
    (hf : ∀ pre x post, xs = pre ++ x :: post → (calls P n).fn f [e x, .tup (pre.map e)] b c = .ok (.bl true) c) : (calls P (n + 1)).fn "wrong_one" [.tup (xs.map e), .int most, .fn f] b c = .ok .non c := by
  rw [calls_keep f_wrong_one rfl rfl]
  dsimp! [c_wrong_one]
  simp only [rb_assoc]
  refine for_enum (fun γ => ∃ v w, γ = [some (.tup (xs.map e)), some (.int most), some (.fn f), v, w]) ⟨_, _, rfl⟩ ?_ ?_
  · rintro pre x post he γ ⟨v, w, rfl⟩
    have h1 := hf pre x post he
    have h2 : ¬ pre.length = most := by rw [he] at hl; simp at hl; omega
    have h3 : ¬ (pre.length : Int) = most := by omega
    have h4 := hi x (by rw [he]; simp)
    have h5 : (P.fun? f).isSome = true := by rw [hF]; rfl
    dsimp! [eq_int, h2, h3, h4, h5, take_pre e he, h1, goes_nx]
  · rintro γ ⟨v, w, rfl⟩
    dsimp! []
theorem s_wrong_lam {α : Type} {x0 : E} {sz : Nat} {cs : List D} {e : α → D} {xs : List α} {n most : Nat} (hl : xs.length ≤ most) (hi : ∀ x ∈ xs, isLam (e x) = false) (b : Nat) (c : List Cell)
    (hf : ∀ pre x post, xs = pre ++ x :: post → (calls P n).lm x0 (([e x, .tup (pre.map e)] ++ cs).map some ++ List.replicate (sz - ([e x, .tup (pre.map e)] ++ cs).length) none) b c = .ok (.bl true) c) : (calls P (n + 1)).fn "wrong_one" [.tup (xs.map e), .int most, .lam x0 sz 2 cs] b c = .ok .non c := by
  rw [calls_keep f_wrong_one rfl rfl]
  dsimp! [c_wrong_one]
  simp only [rb_assoc]
  refine for_enum (fun γ => ∃ v w, γ = [some (.tup (xs.map e)), some (.int most), some (.lam x0 sz 2 cs), v, w]) ⟨_, _, rfl⟩ ?_ ?_
  · rintro pre x post he γ ⟨v, w, rfl⟩
    have h1 := hf pre x post he
    have h2 : ¬ pre.length = most := by rw [he] at hl; simp at hl; omega
    have h3 : ¬ (pre.length : Int) = most := by omega
    have h4 := hi x (by rw [he]; simp)
    simp only [List.cons_append, List.nil_append, List.map_cons, List.length_cons] at h1
    dsimp! [eq_int, h2, h3, h4, take_pre e he]
    dsimp! [h1, goes_nx]
  · rintro γ ⟨v, w, rfl⟩
    dsimp! []
theorem pre_nd {α β : Type} {f : α → β} {xs pre post : List α} {x : α} (h : (xs.map f).Nodup) (he : xs = pre ++ x :: post) : (pre.map f).Nodup ∧ f x ∉ pre.map f := by
  rw [he, List.map_append, List.map_cons, List.nodup_append] at h
  exact ⟨h.1, fun z => h.2.2 _ z (f x) (by simp) rfl⟩
theorem s_is_pair {x : Str} (hx : Nm x) {v : D} (n b : Nat) (c : List Cell) : (calls P (n + 2)).fn "is_pair" [.tup [.str x, v]] b c = .ok (.bl true) c := by
  rw [calls_keep f_is_pair rfl rfl]
  dsimp! [c_is_pair, eq_int, s_is_name hx]
theorem dic_il (ks : List (D × D)) : isLam (.dic ks) = false := rfl
theorem s_is_column {p : Str × Option Int} {pre : List (Str × Option Int)} (hx : Nm p.1) (hv : vOk p.2) (hn : (pre.map (·.1)).Nodup) (hp : p.1 ∉ pre.map (·.1)) (n b : Nat) (c : List Cell) : (calls P (n + 4)).fn "is_column" [cD p, .tup (pre.map cD)] b c = .ok (.bl true) c := by
  rw [calls_keep f_is_column rfl rfl]
  have h1 : bltSem .dict [.tup (pre.map cD)] b c = _ := dict_tup vD hn b c
  have h2 := in_dicT vD pre p.1 b c
  rw [decide_eq_false hp] at h2
  have cn : ∀ n b c, (calls P (n+3)).fn "is_constant" [vD p.2] b c = .ok (.bl true) c := fun n b c => s_is_constant n hv b c
  generalize hd : D.dic (pre.map fun p => (.str p.1, vD p.2)) = dd at h1 h2
  have h3 : isLam dd = false := by rw [← hd]; rfl
  have h4 : ∀ call x b c, cmpX P call .NotIn x dd b c = ofOpt (((inSem b c x dd).map (!·)).map .bl) c := by rw [← hd]; exact fun _ _ _ _ => rfl
  dsimp! [c_is_column, cD, s_is_pair hx, vD_il, cn]
  dsimp! [h1, h2, h3, h4]
theorem s_is_rule {p : Str × Tst} {pre : List (Str × Tst)} (hx : Nm p.1) (ht : TOk p.2) (hn : (pre.map (·.1)).Nodup) (hp : p.1 ∉ pre.map (·.1)) {hs : List Str} (hh : ∀ y ∈ p.2.cols, y ∈ hs) (n b : Nat) (c : List Cell) : (calls P (n + 11)).fn "is_rule" [rD p, .tup (pre.map rD), .tup (hs.map .str)] b c = .ok (.bl true) c := by
  rw [calls_keep f_is_rule rfl rfl]
  have h1 : bltSem .dict [.tup (pre.map rD)] b c = _ := dict_tup Tst.d hn b c
  have h2 := in_dicT Tst.d pre p.1 b c
  rw [decide_eq_false hp] at h2
  have it := s_is_test (cols_tup hs fun _ _ => trivial) ht.ok (by have := ht.deep; omega) (by have := ht.plain; omega) hh n b c
  generalize hd : D.dic (pre.map fun p => (.str p.1, p.2.d)) = dd at h1 h2
  have h3 : isLam dd = false := by rw [← hd]; rfl
  have h4 : ∀ call x b c, cmpX P call .NotIn x dd b c = ofOpt (((inSem b c x dd).map (!·)).map .bl) c := by rw [← hd]; exact fun _ _ _ _ => rfl
  dsimp! [c_is_rule, rD, s_is_pair hx, Tst.il, it]
  dsimp! [h1, h2, h3, h4]
theorem s_is_writer {p : Str × Knd} {pre : List (Str × Knd)} (hx : Nm p.1) (ht : p.2.ok) (hn : (pre.map (·.1)).Nodup) (hp : p.1 ∉ pre.map (·.1)) (n b : Nat) (c : List Cell) : (calls P (n + 13)).fn "is_writer" [wD p, .tup (pre.map wD)] b c = .ok (.bl true) c := by
  rw [calls_keep f_is_writer rfl rfl]
  have h1 : bltSem .dict [.tup (pre.map wD)] b c = _ := dict_tup Knd.d hn b c
  have h2 := in_dicT Knd.d pre p.1 b c
  rw [decide_eq_false hp] at h2
  have it := fun b c => s_is_kind ht n b c
  generalize hd : D.dic (pre.map fun p => (.str p.1, p.2.d)) = dd at h1 h2
  have h3 : isLam dd = false := by rw [← hd]; rfl
  have h4 : ∀ call x b c, cmpX P call .NotIn x dd b c = ofOpt (((inSem b c x dd).map (!·)).map .bl) c := by rw [← hd]; exact fun _ _ _ _ => rfl
  dsimp! [c_is_writer, wD, s_is_pair hx, Knd.il, it]
  dsimp! [h1, h2, h3, h4]
theorem s_can_begin {ws : List (Str × Knd)} (hw : WOk ws) {x : Str} {k : Knd} (hk : kindOf ws x = some k) (hx : x ∈ ws.map (·.1)) (ko : k.ok) {pre hs : List Str} (hp : x ∉ pre) (hm : ∀ y ∈ k.ment, y ∈ hs) (n b : Nat) (c : List Cell) : (calls P (n + 6)).fn "can_begin" [.str x, .tup (pre.map .str), .tup (ws.map wD), .tup (hs.map .str)] b c = .ok (.bl true) c := by
  rw [calls_keep f_can_begin rfl rfl]
  have kl := ment_len ko
  dsimp! [c_can_begin, any_strs, hp, wdic_of hw, wdic_il, wdic_NotIn, hx, wdic_ix, hk, Knd.il, s_mentioned ko]
  rw [compL_mapT (f := fun y : Str => .bl true) (fun y hy => by dsimp! [any_strs, hm y hy]) (by simp [MP.sizeLine]; omega)]
  have h5 : k.ment.length ≤ 16777216 := by omega
  dsimp! [h5, bools_map (fun _ : Str => true)]
end Hk01
end
section
set_option maxRecDepth 100000
set_option maxHeartbeats 1000000
namespace Hk01
open PySem MP
theorem calls_pureL {f : Str} {F : Fun} (h : P.fun? f = some F) {n : Nat} {ds : List D} {b : Nat} {c : List Cell} (hm : F.mode = .pure) (hl : ds.length = F.np) {xs : List D}
    (hr : (evSs P (calls P n) F.body (env0 F ds) (b + c.length) []).bind fin = .ok (.ref (b + c.length)) [.lst xs]) (hc : closedL (b + c.length) xs = true) : (calls P (n + 1)).fn f ds b c = .ok (.lst xs) c := by
  rw [calls_fn h]
  unfold callBy
  rw [hm]
  have hr2 : MP.run P (calls P n) F ds (b + c.length) [] = .ok (.ref (b + c.length)) [.lst xs] := by
    unfold MP.run
    rw [if_pos hl]
    exact hr
  dsimp only
  rw [hr2]
  dsimp only
  have e : freeze (b + c.length) [.lst xs] (.ref (b + c.length)) = some (.lst xs) := by
    unfold freeze
    dsimp only
    rw [if_neg (Nat.lt_irrefl _), cell_last]
    dsimp only
    rw [if_pos hc]
  rw [e]
/-- stands behind one another -/
inductive Chain (ws : List (Str × Knd)) : Std → List Stp → List Std → Prop
  | nil (s : Std) : SOk s → Chain ws s [] [s]
  | cons {s s' : Std} {st : Stp} {sts : List Stp} {ss : List Std} : SOk s → Drawn ws s st → aft ws s st = some s' → Chain ws s' sts ss → Chain ws s (st :: sts) (s :: ss)
theorem Chain.ok {ws : List (Str × Knd)} : ∀ {s : Std} {sts : List Stp} {ss : List Std}, Chain ws s sts ss → ∀ t ∈ ss, SOk t
  | _, _, _, .nil s h, t, ht => by rw [List.mem_singleton.mp ht]; exact h
  | _, _, _, .cons h _ _ r, t, ht => by
    rcases List.mem_cons.mp ht with z | z
    · rw [z]; exact h
    · exact r.ok t z
theorem Chain.len {ws : List (Str × Knd)} : ∀ {s : Std} {sts : List Stp} {ss : List Std}, Chain ws s sts ss → ss.length = sts.length + 1
  | _, _, _, .nil s h => rfl
  | _, _, _, .cons _ _ _ r => by rw [List.length_cons, r.len]; rfl
theorem Chain.head {ws : List (Str × Knd)} : ∀ {s : Std} {sts : List Stp} {ss : List Std}, Chain ws s sts ss → ∃ r, ss = s :: r
  | _, _, _, .nil s h => ⟨[], rfl⟩
  | _, _, _, .cons _ _ _ r => ⟨_, rfl⟩
theorem Std.closed {s : Std} (h : SOk s) (b : Nat) : MP.closed b s.prg = true := by
  unfold Std.prg MP.closed closedF closedF closedF closedF
  rw [lay_closed b (lay_cols h.nm (k := 0)), lay_closed b (lay_rules h.rn (k := 0)), lay_closed b (lay_act h.an (k := 0))]
  rfl
theorem Std.closedL {ss : List Std} (h : ∀ s ∈ ss, SOk s) (b : Nat) : MP.closedL b (ss.map Std.prg) = true := by
  induction ss with
  | nil => rfl
  | cons s ss ih =>
    rw [List.map_cons]
    unfold MP.closedL
    rw [Std.closed (h s (List.mem_cons_self ..)), ih fun t ht => h t (List.mem_cons_of_mem _ ht)]
    rfl
theorem Stp.il (s : Stp) : isLam s.d = false := by cases s <;> rfl
theorem at_last (xs : List D) (x : D) : L2.atI (xs ++ [x]) (-1) = some x := by
  unfold L2.atI L2.ixN
  rw [if_neg (by decide), if_pos (by simp; omega)]
  have : ((-1 : Int) + ((xs ++ [x]).length : Int)).toNat = xs.length := by simp; omega
  rw [this]
  simp
theorem ix_ref (b : Nat) (xs : List D) (i : Int) : ixSem b [.lst xs] (.ref b) (.int i) = L2.atI xs i := by
  show (match (D.int i), seqOf b [.lst xs] (.ref b) with | .int i, some xs => L2.atI xs i | _, _ => none) = _
  unfold seqOf
  dsimp only
  rw [cell_last]
theorem lstCell_last (b : Nat) (xs : List D) : lstCell b [.lst xs] (.ref b) = some xs := by
  unfold lstCell
  dsimp only
  rw [cell_last]
/-- the first stand -/
def beg (cs : List (Str × Option Int)) (rs : List (Str × Tst)) (ws : List (Str × Knd)) (as : List Str) : Std := ⟨cs, rs, (ws.map (·.1)).filter fun y => decide (y ∈ as)⟩
theorem stands_loop {ws : List (Str × Knd)} (hw : WOk ws) {n b : Nat} {t rr a ss0 : D} : ∀ {s : Std} {sts : List Stp} {ss : List Std}, Chain ws s sts ss → ∀ (pre : List Std) (v w : Option D), pre.length + ss.length ≤ 100 →
    ∃ v' w', forL (fun x γ b c => match asgT (.nm 6) x γ with
      | some γ => evSs P (calls P (n + 12)) (.cons (.asg (.nm 7) (.call "after" (.cons (.idx (.var 5) (.neg (.con (.int 1)))) (.cons (.var 6) (.cons (.var 2) .nil))) []))
 (.cons (.ife (.e (.cmp .Is (.var 7) (.con .non)))
 (.cons .brk
 .nil)
 .nil)
 (.cons (.expr (.app (.var 5) (.var 7)))
 .nil))) γ b c
      | none => .bad) b (sts.map Stp.d) [some t, some rr, some (.tup (ws.map wD)), some a, some ss0, some (.ref b), v, w, none, none] [.lst ((pre ++ [s]).map Std.prg)] = .ok (.nx [some t, some rr, some (.tup (ws.map wD)), some a, some ss0, some (.ref b), v', w', none, none]) [.lst ((pre ++ ss).map Std.prg)]
  | _, _, _, .nil s h, pre, v, w, _ => ⟨v, w, by dsimp! []⟩
  | _, _, _, .cons (s := s) (s' := s') (st := st) (sts := sts) (ss := ss) h hd ha r, pre, v, w, hl => by
    have i1 := s_after hw h hd n
    rw [ha] at i1
    simp only [oD] at i1
    obtain ⟨v', w', ih⟩ := stands_loop hw (n := n) (b := b) (t := t) (rr := rr) (a := a) (ss0 := ss0) r (pre ++ [s]) (some st.d) (some s'.prg) (by simp at hl ⊢; omega)
    refine ⟨v', w', ?_⟩
    have h5 : pre.length + 1 < 16777216 := by simp at hl; omega
    have e1 : ((pre ++ [s] ++ [s']).map Std.prg) = (pre ++ [s]).map Std.prg ++ [s'.prg] := by simp
    rw [e1] at ih
    have e2 : (pre ++ s :: ss).map Std.prg = (pre ++ [s] ++ ss).map Std.prg := by simp
    rw [e2, ← ih]
    generalize hL : (pre ++ [s]).map Std.prg = L
    have hL2 : L = pre.map Std.prg ++ [s.prg] := by rw [← hL]; simp
    have hl3 : L.length < 16777216 := by rw [hL2]; simp; omega
    have h6 : L2.atI L (-1) = some s.prg := by rw [hL2]; exact at_last _ _
    have nI : isNon s'.prg = false := rfl
    rw [List.map_cons, forL]
    dsimp! [ix_ref, h6, S_il, Stp.il, i1, nI, lstCell_last, cell_last, set_last, hl3]
structure Prt where
  cols : List (Str × Option Int)
  rules : List (Str × Tst)
  ws : List (Str × Knd)
  act : List Str
  steps : List Stp
def Prt.heads (p : Prt) : List Str := p.cols.map (·.1)
def Prt.beg (p : Prt) : Std := Hk01.beg p.cols p.rules p.ws p.act
structure POk (p : Prt) : Prop where
  cn : ∀ q ∈ p.cols, Nm q.1
  cv : ∀ q ∈ p.cols, vOk q.2
  cd : (p.cols.map (·.1)).Nodup
  c1 : 1 ≤ p.cols.length
  c4 : p.cols.length ≤ 4
  rn : ∀ q ∈ p.rules, Nm q.1 ∧ TOk q.2
  rc : ∀ q ∈ p.rules, ∀ y ∈ q.2.cols, y ∈ p.heads
  rd : (p.rules.map (·.1)).Nodup
  r3 : p.rules.length ≤ 3
  w : WOk p.ws
  wm : ∀ q ∈ p.ws, ∀ y ∈ q.2.ment, y ∈ p.heads
  aw : ∀ x ∈ p.act, x ∈ p.ws.map (·.1)
  ad : p.act.Nodup
  a3 : p.act.length ≤ 3
  s10 : p.steps.length ≤ 10
def tabD (p : Prt) : D := .tup (p.cols.map cD)
def rulD (p : Prt) : D := .tup (p.rules.map rD)
def wriD (p : Prt) : D := .tup (p.ws.map wD)
def actD (p : Prt) : D := .tup (p.act.map .str)
def steD (p : Prt) : D := .tup (p.steps.map Stp.d)
def plD (p : Prt) (ss : List Std) : D := .ins "Plan" [("stands", .lst (ss.map Std.prg)), ("table", tabD p), ("rules", rulD p), ("writers", wriD p), ("active", actD p), ("steps", steD p)]
theorem POk.an {p : Prt} (h : POk p) : ∀ x ∈ p.act, Nm x := fun x hx => by
  obtain ⟨q, hq, rfl⟩ := List.mem_map.mp (h.aw x hx)
  exact h.w.nm q hq
theorem ne_map {α : Type} {e : α → D} {xs : List α} {k : Nat} (h : lay k (.tup (xs.map e)) = true) (hk : k ≤ 64) (hn : 1 ≤ xs.length) (b : Nat) (c : List Cell) : eqSem b c (.tup (xs.map e)) (.tup []) = some false := by
  cases xs with
  | nil => simp at hn
  | cons x xs => exact not_empty (by simpa using h) hk b c
theorem lm_of (n : Nat) (x : E) (γ : MP.Env) (b : Nat) (c : List Cell) : (calls P (n + 1)).lm x γ b c = ev P (calls P n) x γ b c := rfl
theorem nl_t (xs : List D) (b : Nat) (c : List Cell) : newLst true xs b c = if xs.length ≤ MP.sizeLine then .ok (.ref (b + c.length)) (c ++ [.lst xs]) else .bad := rfl
theorem sl10 {α : Type} (xs : List α) : cutD xs none (some 10) = xs.take 10 := sl_to xs 10
theorem s_check_table {p : Prt} (h : POk p) (n b : Nat) (c : List Cell) : (calls P (n + 6)).fn "check_table" [tabD p] b c = .ok .non c := by
  rw [calls_keep f_check_table rfl rfl]
  have w := s_wrong_fn (e := cD) (xs := p.cols) (n := n + 4) (most := 4) f_is_column h.c4 (fun x _ => rfl) b c fun pre x post he => by
    obtain ⟨d1, d2⟩ := pre_nd h.cd he
    have hm : x ∈ p.cols := by rw [he]; simp
    exact s_is_column (h.cn x hm) (h.cv x hm) d1 d2 n b c
  have w2 : (calls P (n + 5)).fn "wrong_one" [.tup (p.cols.map cD), .int 4, .fn "is_column"] b c = .ok .non c := w
  have e := ne_map (lay_cols h.cn (k := 0)) (by omega) h.c1
  unfold tabD
  dsimp! [c_check_table, e, w2]
theorem s_check_rules {p : Prt} (h : POk p) (n b : Nat) (c : List Cell) : (calls P (n + 14)).fn "check_rules" [rulD p, .tup (p.heads.map .str)] b c = .ok .non c := by
  rw [calls_keep f_check_rules rfl rfl]
  have w := s_wrong_lam (x0 := .call "is_rule" (.cons (.var 0) (.cons (.var 1) (.cons (.var 2) .nil))) []) (sz := 5) (cs := [.tup (p.heads.map .str)]) (e := rD) (xs := p.rules) (n := n + 12) (most := 3) h.r3 (fun x _ => rfl) b c fun pre x post he => by
    obtain ⟨d1, d2⟩ := pre_nd h.rd he
    have hm : x ∈ p.rules := by rw [he]; simp
    have r := s_is_rule (h.rn x hm).1 (h.rn x hm).2 d1 d2 (h.rc x hm) n b c
    rw [lm_of]
    have rl : isLam (rD x) = false := rfl
    dsimp! [r, rl]
  have w2 : (calls P (n + 13)).fn "wrong_one" [.tup (p.rules.map rD), .int 3, .lam (.call "is_rule" (.cons (.var 0) (.cons (.var 1) (.cons (.var 2) .nil))) []) 5 2 [.tup (p.heads.map .str)]] b c = .ok .non c := w
  unfold rulD
  dsimp! [c_check_rules, slotsOf, w2]
theorem s_check_writers {p : Prt} (h : POk p) (n b : Nat) (c : List Cell) : (calls P (n + 15)).fn "check_writers" [wriD p] b c = .ok .non c := by
  rw [calls_keep f_check_writers rfl rfl]
  have w := s_wrong_fn (e := wD) (xs := p.ws) (n := n + 13) (most := 4) f_is_writer (by have := h.w.few; omega) (fun x _ => rfl) b c fun pre x post he => by
    obtain ⟨d1, d2⟩ := pre_nd h.w.nd he
    have hm : x ∈ p.ws := by rw [he]; simp
    exact s_is_writer (h.w.nm x hm) (h.w.ok x hm) d1 d2 n b c
  have w2 : (calls P (n + 14)).fn "wrong_one" [.tup (p.ws.map wD), .int 4, .fn "is_writer"] b c = .ok .non c := w
  unfold wriD
  dsimp! [c_check_writers, w2]
theorem s_check_active {p : Prt} (h : POk p) (n b : Nat) (c : List Cell) : (calls P (n + 9)).fn "check_active" [actD p, wriD p, .tup (p.heads.map .str)] b c = .ok .non c := by
  rw [calls_keep f_check_active rfl rfl]
  have w := s_wrong_lam (x0 := .call "can_begin" (.cons (.var 0) (.cons (.var 1) (.cons (.var 3) (.cons (.var 2) .nil)))) []) (sz := 6) (cs := [.tup (p.heads.map .str), .tup (p.ws.map wD)]) (e := D.str) (xs := p.act) (n := n + 7) (most := 4) (by have := h.a3; omega) (fun x _ => rfl) b c fun pre x post he => by
    have d2 : x ∉ pre := by
      have := h.ad
      rw [he, List.nodup_append] at this
      exact fun z => this.2.2 x z x (by simp) rfl
    have hm : x ∈ p.act := by rw [he]; simp
    obtain ⟨k, k1, q, kq, k2, k3⟩ := kindOf_mem (h.aw x hm)
    have r := s_can_begin h.w k1 (h.aw x hm) (by rw [← k3]; exact h.w.ok q kq) d2 (by rw [← k3]; exact h.wm q kq) n b c
    rw [lm_of]
    dsimp! [r]
  have w2 : (calls P (n + 8)).fn "wrong_one" [.tup (p.act.map .str), .int 4, .lam (.call "can_begin" (.cons (.var 0) (.cons (.var 1) (.cons (.var 3) (.cons (.var 2) .nil)))) []) 6 2 [.tup (p.heads.map .str), .tup (p.ws.map wD)]] b c = .ok .non c := w
  unfold actD wriD
  dsimp! [c_check_active, slotsOf, w2]
theorem s_stands_of {p : Prt} (h : POk p) {ss : List Std} (hc : Chain p.ws p.beg p.steps ss) (n b : Nat) (c : List Cell) : (calls P (n + 13)).fn "stands_of" [tabD p, rulD p, wriD p, actD p, steD p] b c = .ok (.lst (ss.map Std.prg)) c := by
  have h3 := h.w.few
  refine calls_pureL f_stands_of rfl rfl ?_ (Std.closedL hc.ok _)
  obtain ⟨v', w', lp⟩ := stands_loop h.w (n := n) (b := b + c.length) (t := tabD p) (rr := rulD p) (a := actD p) (ss0 := steD p) hc [] none none (by rw [hc.len]; have := h.s10; simp; omega)
  have ht : (p.steps.map Stp.d).take 10 = p.steps.map Stp.d := List.take_of_length_le (by rw [List.length_map]; exact h.s10)
  unfold tabD rulD wriD actD steD at *
  dsimp! [c_stands_of]
  rw [compL_filT (f := fun q : Str × Knd => if q.1 ∈ p.act then some (.str q.1) else none) (fun q hq => by
    by_cases e : q.1 ∈ p.act
    · dsimp! [wD, any_strs, e]
    · dsimp! [wD, any_strs, e]) (by simp [MP.sizeLine]; omega)]
  rw [fm_names p.ws fun y => y ∈ p.act]
  have h7 := fil_len (q := fun y : Str => decide (y ∈ p.act)) (xs := p.ws.map (·.1)) (n := 16777216) (by simp; omega)
  have m := mk_S (cs := p.cols) (rs := p.rules) (as := (p.ws.map (·.1)).filter fun y => decide (y ∈ p.act)) h.cn h.rn (fun y hy => by
    obtain ⟨q, hq, rfl⟩ := List.mem_map.mp (List.mem_filter.mp hy).1
    exact h.w.nm q hq) (n + 11) (b + c.length) []
  have e1 : p.beg = ⟨p.cols, p.rules, (p.ws.map (·.1)).filter fun y => decide (y ∈ p.act)⟩ := rfl
  rw [← e1] at m
  generalize hz : ((p.ws.map (·.1)).filter fun y => decide (y ∈ p.act)) = zs at h7 m ⊢
  simp only [List.nil_append, List.map_cons, List.map_nil] at lp
  dsimp! [h7, m, nl_t, sl10, ht]
  simp only [rb_assoc]
  refine (bind_left _ lp).trans ?_
  dsimp! []
theorem i_Plan : P.init "Plan" = some (some ("Plan.__init__" : Str)) := by kernel_rfl
theorem pf_stands : P.fld "Plan" "stands" = true := by kernel_rfl
theorem pf_table : P.fld "Plan" "table" = true := by kernel_rfl
theorem pf_rules : P.fld "Plan" "rules" = true := by kernel_rfl
theorem pf_writers : P.fld "Plan" "writers" = true := by kernel_rfl
theorem pf_active : P.fld "Plan" "active" = true := by kernel_rfl
theorem pf_steps : P.fld "Plan" "steps" = true := by kernel_rfl
theorem pp_stands : P.prop "Plan" "stands" = none := by kernel_rfl
theorem pp_table : P.prop "Plan" "table" = none := by kernel_rfl
theorem pp_rules : P.prop "Plan" "rules" = none := by kernel_rfl
theorem pp_writers : P.prop "Plan" "writers" = none := by kernel_rfl
theorem pp_active : P.prop "Plan" "active" = none := by kernel_rfl
theorem pp_steps : P.prop "Plan" "steps" = none := by kernel_rfl
theorem Stp.lay {ws : List (Str × Knd)} {s : Std} {st : Stp} (h : Drawn ws s st) {k : Nat} : MP.lay (k + 5) st.d = true := by
  cases st with
  | add x t => exact lay_tup (layL_cons lay_lit (layL_cons (lay_str h.1.st) (layL_cons (h.2.1.lay (by omega)) layL_nil)))
  | look x => exact lay_tup (layL_cons lay_lit (layL_cons (lay_str (Nm.st h)) layL_nil))
  | drop x => exact lay_tup (layL_cons lay_lit (layL_cons (lay_str (Nm.st h)) layL_nil))
  | beg x => exact lay_tup (layL_cons lay_lit (layL_cons (lay_str h.1.st) layL_nil))
  | fin x => exact lay_tup (layL_cons lay_lit (layL_cons (lay_str h.1.st) layL_nil))
  | dfl x v => exact lay_tup (layL_cons lay_lit (layL_cons (lay_str h.1.st) (layL_cons (vD_lay v) layL_nil)))
  | col x v => exact lay_tup (layL_cons lay_lit (layL_cons (lay_str h.1.st) (layL_cons (vD_lay v) layL_nil)))
  | rem x => exact lay_tup (layL_cons lay_lit (layL_cons (lay_str h.1.st) layL_nil))
  | fil x v t => exact lay_tup (layL_cons lay_lit (layL_cons (x := .tup [.tup [.str x, vD v]]) (lay_tup (layL_cons (lay_tup (layL_cons (lay_str h.1.st) (layL_cons (vD_lay v) layL_nil))) layL_nil)) (layL_cons (h.2.2.2.1.lay (by omega)) layL_nil)))
theorem Chain.drawn {ws : List (Str × Knd)} : ∀ {s : Std} {sts : List Stp} {ss : List Std}, Chain ws s sts ss → ∀ st ∈ sts, ∃ s', Drawn ws s' st
  | _, _, _, .nil s h, st, ht => by cases ht
  | _, _, _, .cons _ d _ r, st, ht => by
    rcases List.mem_cons.mp ht with z | z
    · rw [z]; exact ⟨_, d⟩
    · exact r.drawn st z
theorem lay_ws {ws : List (Str × Knd)} (h : WOk ws) {k : Nat} : lay (k + 6) (.tup (ws.map wD)) = true := lay_tup (layL_map fun p hp => lay_tup (layL_cons (lay_str (h.nm p hp).st) (layL_cons (Knd.lay (h.ok p hp)) layL_nil)))
theorem lay_steps {ws : List (Str × Knd)} {s : Std} {sts : List Stp} {ss : List Std} (h : Chain ws s sts ss) {k : Nat} : lay (k + 6) (.tup (sts.map Stp.d)) = true := lay_tup (layL_map fun st hs => by
  obtain ⟨s', hd⟩ := h.drawn st hs
  exact Stp.lay hd)
theorem mk_Plan {p : Prt} (h : POk p) {ss : List Std} (hc : Chain p.ws p.beg p.steps ss) (n b : Nat) (c : List Cell) : mkSem P (calls P (n + 16)) "Plan" [tabD p, rulD p, wriD p, actD p, steD p] b c = .ok (plD p ss) c := by
  unfold mkSem
  rw [i_Plan]
  show (noExc ((calls P (n+16)).fn "Plan.__init__" (.ref (b + c.length) :: [tabD p, rulD p, wriD p, actD p, steD p]) (b + c.length) [.ins "Plan" []])).bind _ = _
  have ct := s_check_table h (n + 9)
  have cr := s_check_rules h (n + 1)
  have cw := s_check_writers h n
  have ca := s_check_active h (n + 6)
  have so := s_stands_of h hc (n + 2)
  rw [calls_keep f_Plan___init__ rfl rfl]
  have h4 := h.c4
  have h10 := h.s10
  have hl := hc.len
  have h3 : ¬ ((ss.length : Int) ≤ (p.steps.length : Int)) := by rw [hl]; omega
  have h5 : p.cols.length ≤ 16777216 := by omega
  unfold tabD rulD wriD actD steD at *
  dsimp! [c_Plan___init__, ct]
  rw [compL_mapT (f := fun q : Str × Option Int => .str q.1) (fun q _ => by dsimp! [cD]) (by simp [MP.sizeLine]; omega)]
  have e1 : p.cols.map (fun q : Str × Option Int => D.str q.1) = p.heads.map .str := by simp [Prt.heads]
  rw [e1] 
  have h6 : p.heads.length ≤ 16777216 := by simp [Prt.heads]; omega
  dsimp! [h6, cr, cw, ca, so, cell_last, set_last, ref_class, pf_stands, pp_stands, fieldOf, evS.putF, lk_cons, eq_int, h3, pf_table, pf_rules, pf_writers, pf_active, pf_steps]
  have l0 : MP.closed (b + c.length) (.lst (ss.map Std.prg)) = true := by unfold MP.closed; exact Std.closedL hc.ok _
  have l1 := lay_closed (b + c.length) (lay_cols h.cn (k := 0))
  have l2 := lay_closed (b + c.length) (lay_rules h.rn (k := 0))
  have l3 := lay_closed (b + c.length) (lay_ws h.w (k := 0))
  have l4 := lay_closed (b + c.length) (lay_act h.an (k := 0))
  have l5 := lay_closed (b + c.length) (lay_steps hc (k := 0))
  simp [mkEnd, closedF, l0, l1, l2, l3, l4, l5, plD, tabD, rulD, wriD, actD, steD]
section
variable (p : Prt) (ss : List Std) (b : Nat) (c : List Cell)
theorem L_il : isLam (plD p ss) = false := rfl
theorem L_cls : classOf b c (plD p ss) = some ("Plan" : Str) := rfl
theorem L_stands : fieldOf b c (plD p ss) "stands" = some (.lst (ss.map Std.prg)) := by unfold plD; rw [fo_cons, if_pos rfl]
theorem L_table : fieldOf b c (plD p ss) "table" = some (tabD p) := by unfold plD; simp [fo_cons, strEq]
theorem L_rules : fieldOf b c (plD p ss) "rules" = some (rulD p) := by unfold plD; simp [fo_cons, strEq]
theorem L_writers : fieldOf b c (plD p ss) "writers" = some (wriD p) := by unfold plD; simp [fo_cons, strEq]
theorem L_active : fieldOf b c (plD p ss) "active" = some (actD p) := by unfold plD; simp [fo_cons, strEq]
theorem L_steps : fieldOf b c (plD p ss) "steps" = some (steD p) := by unfold plD; simp [fo_cons, strEq]
theorem L_nstand : fieldOf b c (plD p ss) "stand" = none := by unfold plD; simp only [fo_cons, strEq, String.reduceEq, if_false]; rfl
theorem L_nparts : fieldOf b c (plD p ss) "parts" = none := by unfold plD; simp only [fo_cons, strEq, String.reduceEq, if_false]; rfl
theorem L_ncolumns : fieldOf b c (plD p ss) "columns" = none := by unfold plD; simp only [fo_cons, strEq, String.reduceEq, if_false]; rfl
theorem L_nin_force : fieldOf b c (plD p ss) "in_force" = none := by unfold plD; simp only [fo_cons, strEq, String.reduceEq, if_false]; rfl
theorem L_nactive_at : fieldOf b c (plD p ss) "active_at" = none := by unfold plD; simp only [fo_cons, strEq, String.reduceEq, if_false]; rfl
end
theorem me_stand : P.meth "Plan" "stand" = some "Plan.stand" := p_Plan_stand
theorem me_parts : P.meth "Plan" "parts" = some "Plan.parts" := p_Plan_parts
theorem me_columns : P.meth "Plan" "columns" = some "Plan.columns" := p_Plan_columns
theorem me_in_force : P.meth "Plan" "in_force" = some "Plan.in_force" := p_Plan_in_force
theorem me_active_at : P.meth "Plan" "active_at" = some "Plan.active_at" := p_Plan_active_at
theorem me_len : P.meth "Plan" "__len__" = some "Plan.__len__" := p_Plan___len__
theorem me_eq : P.meth "Plan" "__eq__" = some "Plan.__eq__" := p_Plan___eq__
theorem be_Plan : P.below "Plan" (.own "Plan") = some true := by kernel_rfl
theorem s_len (p : Prt) (ss : List Std) (n b : Nat) (c : List Cell) : (calls P (n + 1)).fn "Plan.__len__" [plD p ss] b c = .ok (.int p.steps.length) c := by
  rw [calls_keep f_Plan___len__ rfl rfl]
  have e := L_steps p ss
  unfold steD at e
  dsimp! [c_Plan___len__, L_il, L_cls, pp_steps, pf_steps, e]
theorem at_map {α : Type} {e : α → D} {xs : List α} {m : Nat} {x : α} (h : xs[m]? = some x) : L2.atI (xs.map e) (m : Int) = some (e x) := L2.atI_nat (by rw [List.getElem?_map, h]; rfl)
theorem s_stand {p : Prt} {ss : List Std} {m : Nat} {s : Std} (hl : ss.length = p.steps.length + 1) (hm : ss[m]? = some s) (n b : Nat) (c : List Cell) : (calls P (n + 3)).fn "Plan.stand" [plD p ss, .int m] b c = .ok s.prg c := by
  rw [calls_keep f_Plan_stand rfl rfl]
  have e := L_steps p ss
  unfold steD at e
  have hlt : m < ss.length := (List.getElem?_eq_some_iff.mp hm).1
  have h1 : m ≤ p.steps.length := by omega
  dsimp! [c_Plan_stand, L_il, L_cls, pp_steps, pf_steps, e, s_is_between, h1, pp_stands, pf_stands, L_stands, at_map hm]
theorem s_columns {p : Prt} {ss : List Std} {m : Nat} {s : Std} (hl : ss.length = p.steps.length + 1) (hm : ss[m]? = some s) (h4 : s.cols.length ≤ 100) (n b : Nat) (c : List Cell) : (calls P (n + 4)).fn "Plan.columns" [plD p ss, .int m] b c = .ok (.tup (s.heads.map .str)) c := by
  rw [calls_keep f_Plan_columns rfl rfl]
  dsimp! [c_Plan_columns, L_il, L_cls, me_stand, L_nstand, s_stand hl hm, S_cls, p_heads, s_heads h4]
theorem s_in_force {p : Prt} {ss : List Std} {m : Nat} {s : Std} (hl : ss.length = p.steps.length + 1) (hm : ss[m]? = some s) (h4 : s.rules.length ≤ 100) (n b : Nat) (c : List Cell) : (calls P (n + 4)).fn "Plan.in_force" [plD p ss, .int m] b c = .ok (.tup (s.forced.map .str)) c := by
  rw [calls_keep f_Plan_in_force rfl rfl]
  dsimp! [c_Plan_in_force, L_il, L_cls, me_stand, L_nstand, s_stand hl hm, S_cls, p_forced, s_forced h4]
theorem s_active_at {p : Prt} {ss : List Std} {m : Nat} {s : Std} (hl : ss.length = p.steps.length + 1) (hm : ss[m]? = some s) (n b : Nat) (c : List Cell) : (calls P (n + 4)).fn "Plan.active_at" [plD p ss, .int m] b c = .ok (.tup (s.act.map .str)) c := by
  rw [calls_keep f_Plan_active_at rfl rfl]
  dsimp! [c_Plan_active_at, L_il, L_cls, me_stand, L_nstand, s_stand hl hm, S_cls, pr_active, fl_active, S_active]
def parD (p : Prt) : List D := [tabD p, rulD p, wriD p, actD p, steD p]
theorem s_parts (p : Prt) (ss : List Std) (n b : Nat) (c : List Cell) : (calls P (n + 1)).fn "Plan.parts" [plD p ss] b c = .ok (.tup (parD p)) c := by
  rw [calls_keep f_Plan_parts rfl rfl]
  dsimp! [c_Plan_parts, L_il, L_cls, pp_table, pf_table, L_table, pp_rules, pf_rules, L_rules, pp_writers, pf_writers, L_writers, pp_active, pf_active, L_active, pp_steps, pf_steps, L_steps, parD]
theorem par_lay {p : Prt} (h : POk p) {ss : List Std} (hc : Chain p.ws p.beg p.steps ss) : layL 6 (parD p) = true :=
  layL_cons (lay_cols h.cn) (layL_cons (lay_rules h.rn) (layL_cons (lay_ws h.w) (layL_cons (lay_act h.an) (layL_cons (lay_steps hc) layL_nil))))
theorem s_eq {p q : Prt} {ss ts : List Std} (hp : layL 6 (parD p) = true) (hq : layL 6 (parD q) = true) (n b : Nat) (c : List Cell) : (calls P (n + 2)).fn "Plan.__eq__" [plD p ss, plD q ts] b c = .ok (.bl (eqDs (parD p) (parD q))) c := by
  rw [calls_keep f_Plan___eq__ rfl rfl]
  have ti : ∀ b c, isTy P b c (plD q ts) (.own "Plan") = some true := fun b c => be_Plan
  have e : ∀ b c, eqSem b c (.tup (parD p)) (.tup (parD q)) = some (eqDs (parD p) (parD q)) := fun b c => by
    rw [eqSem_lay (lay_tup hp) (lay_tup hq)]; rfl
  dsimp! [c_Plan___eq__, L_il, L_cls, ti, me_parts, L_nparts, s_parts, e]
theorem s_eqL {p : Prt} {ss : List Std} (xs : List D) (n b : Nat) (c : List Cell) : (calls P (n + 1)).fn "Plan.__eq__" [plD p ss, .lst xs] b c = .ok (.bl false) c := by
  rw [calls_keep f_Plan___eq__ rfl rfl]
  dsimp! [c_Plan___eq__]
end Hk01
end
section
set_option maxRecDepth 100000
set_option maxHeartbeats 1000000
namespace Hk01
open PySem MP
/-- the bag to draw from stands at m -/
def BagAt (c : List Cell) (m : Nat) : Prop := ∃ h s k : Int, c[m]? = some (.lst [.int h, .int s, .int k]) ∧ 0 ≤ h
/-- but for the bag the store is the same -/
structure Like (c : List Cell) (m : Nat) (c1 : List Cell) : Prop where
  set : ∃ x, c1 = c.set m x
  bag : BagAt c1 m
theorem BagAt.lt {c : List Cell} {m : Nat} (h : BagAt c m) : m < c.length := by
  obtain ⟨_, _, _, h, _⟩ := h
  exact (List.getElem?_eq_some_iff.mp h).1
theorem Like.refl {c : List Cell} {m : Nat} (h : BagAt c m) : Like c m c := by
  refine ⟨⟨c[m]'h.lt, ?_⟩, h⟩
  rw [List.set_getElem_self]
theorem Like.trans {c c1 c2 : List Cell} {m : Nat} (a : Like c m c1) (b : Like c1 m c2) : Like c m c2 := by
  obtain ⟨⟨x, rfl⟩, _⟩ := a
  obtain ⟨⟨y, rfl⟩, hb⟩ := b
  exact ⟨⟨y, by rw [List.set_set]⟩, hb⟩
/-- r ends with a value of Φ, and has drawn at most -/
def Dr {α : Type} (c : List Cell) (m : Nat) (r : Res α) (Φ : α → Prop) : Prop := ∃ a c1, r = .ok a c1 ∧ Like c m c1 ∧ Φ a
theorem Dr.bind {α β : Type} {c : List Cell} {m : Nat} {r : Res α} {Φ : α → Prop} {k : α → List Cell → Res β} {Ψ : β → Prop} (h : Dr c m r Φ) (hk : ∀ a c1, Like c m c1 → Φ a → Dr c1 m (k a c1) Ψ) : Dr c m (r.bind k) Ψ := by
  obtain ⟨a, c1, rfl, l, p⟩ := h
  obtain ⟨b, c2, e, l2, q⟩ := hk a c1 l p
  exact ⟨b, c2, e, l.trans l2, q⟩
theorem Dr.ne {α : Type} {c : List Cell} {m : Nat} {r : Res α} {Φ : α → Prop} (h : Dr c m r Φ) : Dr c m (noExc r) Φ := by
  obtain ⟨a, c1, rfl, l, p⟩ := h
  exact ⟨a, c1, rfl, l, p⟩
theorem Dr.ok {α : Type} {c : List Cell} {m : Nat} {a : α} {Φ : α → Prop} (hb : BagAt c m) (h : Φ a) : Dr c m (.ok a c) Φ := ⟨a, c, rfl, .refl hb, h⟩
theorem Dr.mono {α : Type} {c : List Cell} {m : Nat} {r : Res α} {Φ Ψ : α → Prop} (h : Dr c m r Φ) (k : ∀ a, Φ a → Ψ a) : Dr c m r Ψ := by
  obtain ⟨a, c1, e, l, p⟩ := h
  exact ⟨a, c1, e, l, k a p⟩
theorem ix_at {c : List Cell} {m : Nat} {xs : List D} (h : c[m]? = some (.lst xs)) (i : Int) : ixSem 0 c (.ref m) (.int i) = L2.atI xs i := by
  show (match (D.int i), seqOf 0 c (.ref m) with | .int i, some xs => L2.atI xs i | _, _ => none) = _
  unfold seqOf cellAt
  dsimp only
  rw [if_pos (Nat.zero_le _), Nat.sub_zero, h]
theorem cell_at {c : List Cell} {m : Nat} {x : Cell} (h : c[m]? = some x) : cellAt 0 c m = some x := by
  unfold cellAt
  rw [if_pos (Nat.zero_le _), Nat.sub_zero, h]
theorem set_0 (c : List Cell) (m : Nat) (x : Cell) : setC 0 c m x = c.set m x := rfl
theorem bn_mod (b : Nat) (c : List Cell) (i j : Int) : binSem .Mod b c (.int i) (.int j) = if 0 < j then some (.int (i % j)) else none := rfl
theorem bn_div (b : Nat) (c : List Cell) (i j : Int) : binSem .FloorDiv b c (.int i) (.int j) = if decide (0 < j) && decide (j < 1073741824) then some (.int (i / j)) else none := rfl
theorem bn_mul (b : Nat) (c : List Cell) (i j : Int) : binSem .Mult b c (.int i) (.int j) = if small64 i || small64 j then some (.int (i * j)) else none := rfl
theorem s64 {i : Int} (h : -(2 ^ 64) < i) (h2 : i < 2 ^ 64) : small64 i = true := by unfold small64; rw [decide_eq_true h, decide_eq_true h2]; rfl
theorem bs_int (b : Nat) (c : List Cell) (i : Int) : bltSem .int [.int i] b c = some (.int i) := rfl
theorem bs_abs (b : Nat) (c : List Cell) (i : Int) : bltSem .abs [.int i] b c = some (.int (if i < 0 then -i else i)) := rfl
theorem s_draw {w : Int} (hw : 0 < w) (hw2 : w < 1073741824) {c : List Cell} {m : Nat} (hb : BagAt c m) (n : Nat) : Dr c m ((calls P (n + 1)).fn "_law_draw" [.ref m, .int w] 0 c) fun d => ∃ v : Int, d = .int v ∧ 0 ≤ v ∧ v < w := by
  have hm := hb.lt
  obtain ⟨h, s, k, hc, h0⟩ := hb
  have hs : ∀ x : Cell, (c.set m x)[m]? = some x := fun x => by rw [List.getElem?_set_self hm]
  have i2 : L2.ixN 3 2 = some 2 := by decide
  have i0 : L2.ixN 3 0 = some 0 := by decide
  have i1 : L2.ixN 3 1 = some 1 := by decide
  rw [calls_keep f__law_draw rfl rfl]
  by_cases hp : 0 < h
  · dsimp! [c__law_draw, ix_at hc, cell_at hc, i2, set_0, ix_at (hs _), cell_at (hs _), hp, bs_int, bn_mod, hw, bn_div, hw2, i0]
    exact ⟨_, _, rfl, ⟨⟨_, rfl⟩, _, _, _, hs _, Int.ediv_nonneg h0 (by omega)⟩, _, rfl, Int.emod_nonneg _ (by omega), Int.emod_lt_of_pos _ hw⟩
  · have m1 : ∀ x : Int, small64 (x % 54001 + 43003) = true := fun x => s64 (by have := Int.emod_nonneg x (show (54001 : Int) ≠ 0 by decide); omega) (by have := Int.emod_lt_of_pos x (show (0 : Int) < 54001 by decide); omega)
    have m2 : small64 64007 = true := by decide
    have m3 : small64 11 = true := by decide
    dsimp! [c__law_draw, ix_at hc, cell_at hc, i2, set_0, ix_at (hs _), cell_at (hs _), hp, bs_int, bn_mod, hw, bn_div, hw2, i0, i1, bn_mul, m1, m2, m3]
    exact ⟨_, _, rfl, ⟨⟨_, rfl⟩, _, _, _, hs _, h0⟩, _, rfl, Int.emod_nonneg _ (by omega), Int.emod_lt_of_pos _ hw⟩
theorem at_some {α : Type} {xs : List α} {v : Int} (h0 : 0 ≤ v) (h1 : v < xs.length) : ∃ x ∈ xs, L2.atI xs v = some x := by
  obtain ⟨k, rfl⟩ := Int.eq_ofNat_of_zero_le h0
  have hk : k < xs.length := by omega
  exact ⟨xs[k], List.getElem_mem hk, L2.atI_nat (List.getElem?_eq_getElem hk)⟩
theorem s_one {xs : List D} (h1 : 1 ≤ xs.length) (h2 : xs.length < 1000) {c : List Cell} {m : Nat} (hb : BagAt c m) (n : Nat) : Dr c m ((calls P (n + 2)).fn "_law_one" [.ref m, .lst xs] 0 c) (· ∈ xs) := by
  rw [calls_keep f__law_one rfl rfl]
  dsimp! [c__law_one]
  simp only [rb_assoc]
  refine Dr.bind (Dr.ne (s_draw (w := (xs.length : Int)) (by omega) (by omega) hb n)) ?_
  rintro _ c1 l1 ⟨v, rfl, v0, v1⟩
  obtain ⟨x, hx, e⟩ := at_some v0 v1
  dsimp! [e]
  exact .ok l1.bag hx
theorem s_integer {c : List Cell} {m : Nat} (hb : BagAt c m) (n : Nat) : Dr c m ((calls P (n + 3)).fn "_law_integer" [.ref m] 0 c) fun d => ∃ i : Int, d = .int i ∧ 0 ≤ i ∧ i ≤ 3 := by
  rw [calls_keep f__law_integer rfl rfl]
  dsimp! [c__law_integer]
  simp only [rb_assoc]
  refine Dr.bind (Dr.ne (s_one (by simp) (by simp) hb n)) ?_
  intro d c1 l1 hd
  dsimp! []
  refine .ok l1.bag ?_
  simp only [List.mem_cons, List.not_mem_nil, or_false] at hd
  rcases hd with rfl | rfl | rfl | rfl | rfl | rfl <;> exact ⟨_, rfl, by decide, by decide⟩
/-- a test over some columns -/
def TD (hs : List Str) (deep most : Nat) (d : D) : Prop := ∃ t : Tst, d = t.d ∧ t.ok ∧ t.deep ≤ deep ∧ t.plain ≤ most ∧ ∀ y ∈ t.cols, y ∈ hs
theorem s_plain {hs : List Str} (hn : ∀ x ∈ hs, Nm x) (h1 : 1 ≤ hs.length) (h2 : hs.length < 1000) {c : List Cell} {m : Nat} (hb : BagAt c m) (n : Nat) : Dr c m ((calls P (n + 4)).fn "_law_plain" [.ref m, .lst (hs.map .str)] 0 c) (TD hs 1 1) := by
  rw [calls_keep f__law_plain rfl rfl]
  dsimp! [c__law_plain]
  simp only [rb_assoc]
  refine Dr.bind (Dr.ne (s_draw (by decide) (by decide) hb (n + 2))) ?_
  rintro _ c1 l1 ⟨v, rfl, v0, v1⟩
  dsimp! []
  simp only [rb_assoc]
  refine Dr.bind (Dr.ne (s_one (by simpa using h1) (by simpa using h2) l1.bag (n + 1))) ?_
  intro d c2 l2 hd
  obtain ⟨x, hx, rfl⟩ := List.mem_map.mp hd
  have nx := hn x hx
  by_cases e0 : v = 0
  · dsimp! [eq_int, e0]
    exact .ok l2.bag ⟨.tru, rfl, trivial, by simp [Tst.deep], by simp [Tst.plain], fun y hy => by simp [Tst.cols] at hy⟩
  · by_cases e1 : v = 1
    · dsimp! [eq_int, e0, e1]
      exact .ok l2.bag ⟨.emp x, rfl, nx, by simp [Tst.deep], by simp [Tst.plain], fun y hy => by simp only [Tst.cols, List.mem_singleton] at hy; rw [hy]; exact hx⟩
    · dsimp! [eq_int, e0, e1]
      simp only [rb_assoc]
      refine Dr.bind (Dr.ne (s_one (by simp) (by simp) l2.bag (n + 1))) ?_
      intro o c3 l3 ho
      dsimp! []
      simp only [rb_assoc]
      refine Dr.bind (Dr.ne (s_integer l3.bag n)) ?_
      rintro _ c4 l4 ⟨i, rfl, i0, i3⟩
      have ho2 : ∃ z ∈ orders, o = .str z := by
        simp only [List.mem_cons, List.not_mem_nil, or_false] at ho
        rcases ho with rfl | rfl | rfl | rfl | rfl | rfl <;> exact ⟨_, by simp [orders], rfl⟩
      obtain ⟨z, hz, rfl⟩ := ho2
      dsimp! []
      exact .ok l4.bag ⟨.cmp x z i, rfl, ⟨nx, hz, by omega, by omega⟩, by simp [Tst.deep], by simp [Tst.plain], fun y hy => by simp only [Tst.cols, List.mem_singleton] at hy; rw [hy]; exact hx⟩
theorem TD.mono {hs : List Str} {a b k l : Nat} {d : D} (h : TD hs a k d) (h1 : a ≤ b) (h2 : k ≤ l) : TD hs b l d := by
  obtain ⟨t, e, o, p, q, r⟩ := h
  exact ⟨t, e, o, by omega, by omega, r⟩
theorem s_test {hs : List Str} (hn : ∀ x ∈ hs, Nm x) (h1 : 1 ≤ hs.length) (h2 : hs.length < 1000) : ∀ (j : Nat) {most : Nat}, 1 ≤ j → j ≤ 5 → 1 ≤ most → most ≤ 6 → ∀ (c : List Cell) (m : Nat), BagAt c m → ∀ n : Nat, Dr c m ((calls P (n + j + 4)).fn "_law_test" [.ref m, .lst (hs.map .str), .int most, .int j] 0 c) (TD hs j most)
  | 0, _, h, _, _, _ => absurd h (by decide)
  | j + 1, most, _, hj, hm1, hm6 => by
    intro c m hb n
    rw [show n + (j + 1) + 4 = (n + j + 4) + 1 by omega, calls_keep f__law_test rfl rfl]
    have plain : ∀ {c1 : List Cell}, BagAt c1 m → Dr c1 m ((calls P (n + j + 4)).fn "_law_plain" [.ref m, .lst (hs.map .str)] 0 c1) (TD hs (j + 1) most) := fun {c1} hb1 => (s_plain hn h1 h2 hb1 (n + j)).mono fun d hd => hd.mono (by omega) hm1
    have fin1 : ∀ {c1 : List Cell} {d : D}, BagAt c1 m → TD hs (j + 1) most d → True := fun _ _ => trivial
    by_cases e1 : j = 0
    · subst e1
      dsimp! [c__law_test, eq_int]
      simp only [rb_assoc]
      refine Dr.bind (Dr.ne (plain hb)) ?_
      intro d c1 l1 hd
      dsimp! []
      exact .ok l1.bag hd
    · have e2 : ¬ (j : Int) + 1 = 1 := by omega
      by_cases e3 : most = 1
      · subst e3
        dsimp! [c__law_test, eq_int, e1, e2]
        simp only [rb_assoc]
        refine Dr.bind (Dr.ne (plain hb)) ?_
        intro d c1 l1 hd
        dsimp! []
        exact .ok l1.bag hd
      · have e4 : ¬ (most : Int) = 1 := by omega
        dsimp! [c__law_test, eq_int, e1, e2, e3, e4]
        simp only [rb_assoc]
        refine Dr.bind (Dr.ne (s_draw (by decide) (by decide) hb (n + j + 3))) ?_
        rintro _ c1 l1 ⟨v, rfl, v0, v1⟩
        by_cases e5 : v = 0
        · dsimp! [eq_int, e5]
          simp only [rb_assoc]
          refine Dr.bind (Dr.ne (plain l1.bag)) ?_
          intro d c2 l2 hd
          dsimp! []
          exact .ok l2.bag hd
        · dsimp! [eq_int, e5]
          simp only [rb_assoc]
          refine Dr.bind (Dr.ne (s_draw (by decide) (by decide) l1.bag (n + j + 3))) ?_
          rintro _ c2 l2 ⟨u, rfl, u0, u1⟩
          by_cases e6 : u = 0
          · have ih := s_test hn h1 h2 j (most := most) (by omega) (by omega) hm1 hm6 _ _ l2.bag n
            dsimp! [eq_int, e6]
            simp only [rb_assoc]
            refine Dr.bind (Dr.ne ih) ?_
            rintro _ c3 l3 ⟨t, rfl, t1, t2, t3, t4⟩
            dsimp! []
            exact .ok l3.bag ⟨.not t, rfl, t1, by simp only [Tst.deep]; omega, t3, t4⟩
          · dsimp! [eq_int, e6]
            simp only [rb_assoc]
            refine Dr.bind (Dr.ne (s_draw (w := (most : Int) - 1) (by omega) (by omega) l2.bag (n + j + 3))) ?_
            rintro _ c3 l3 ⟨a, rfl, a0, a1⟩
            obtain ⟨k, rfl⟩ := Int.eq_ofNat_of_zero_le a0
            have ih1 := s_test hn h1 h2 j (most := 1 + k) (by omega) (by omega) (by omega) (by omega) _ _ l3.bag n
            have ek : ((1 + k : Nat) : Int) = 1 + (k : Int) := by omega
            rw [ek] at ih1
            dsimp! []
            simp only [rb_assoc]
            refine Dr.bind (Dr.ne ih1) ?_
            rintro _ c4 l4 ⟨t, rfl, t1, t2, t3, t4⟩
            dsimp! []
            simp only [rb_assoc]
            refine Dr.bind (Dr.ne (s_one (by simp) (by simp) l4.bag (n + j + 2))) ?_
            intro w c5 l5 hw
            have ih2 := s_test hn h1 h2 j (most := most - (1 + k)) (by omega) (by omega) (by omega) (by omega) _ _ l5.bag n
            have ek2 : ((most - (1 + k) : Nat) : Int) = (most : Int) - (1 + (k : Int)) := by omega
            rw [ek2] at ih2
            dsimp! [Tst.il]
            simp only [rb_assoc]
            refine Dr.bind (Dr.ne ih2) ?_
            rintro _ c6 l6 ⟨t', rfl, r1, r2, r3, r4⟩
            dsimp! []
            refine .ok l6.bag ?_
            have cs : ∀ y ∈ t.cols ++ t'.cols, y ∈ hs := fun y hy => (List.mem_append.mp hy).elim (t4 y) (r4 y)
            simp only [List.mem_cons, List.not_mem_nil, or_false] at hw
            rcases hw with rfl | rfl
            · exact ⟨.and t t', rfl, ⟨t1, r1⟩, by simp only [Tst.deep]; omega, by simp only [Tst.plain]; omega, cs⟩
            · exact ⟨.or t t', rfl, ⟨t1, r1⟩, by simp only [Tst.deep]; omega, by simp only [Tst.plain]; omega, cs⟩
end Hk01
end
section
set_option maxRecDepth 100000
set_option maxHeartbeats 1000000
namespace Hk01
open PySem MP
theorem Like.len {c c1 : List Cell} {m : Nat} (h : Like c m c1) : c1.length = c.length := by obtain ⟨⟨x, rfl⟩, _⟩ := h; simp
theorem BagAt.app {c : List Cell} {m : Nat} (h : BagAt c m) (e : List Cell) : BagAt (c ++ e) m := by
  have hm := h.lt
  obtain ⟨a, b, k, h1, h2⟩ := h
  exact ⟨a, b, k, by rw [List.getElem?_append_left hm]; exact h1, h2⟩
theorem Like.split {c e c2 : List Cell} {m : Nat} (h : Like (c ++ e) m c2) (hm : m < c.length) : ∃ c1, c2 = c1 ++ e ∧ Like c m c1 := by
  obtain ⟨⟨x, rfl⟩, b⟩ := h
  have e1 : (c ++ e).set m x = c.set m x ++ e := by rw [List.set_append]; simp [hm]
  refine ⟨c.set m x, e1, ⟨x, rfl⟩, ?_⟩
  rw [e1] at b
  obtain ⟨p, q, k, h1, h2⟩ := b
  exact ⟨p, q, k, by rw [List.getElem?_append_left (by simpa using hm)] at h1; exact h1, h2⟩
/-- a drawing call over a longer store -/
theorem Dr.app {α : Type} {c e : List Cell} {m : Nat} {r : Res α} {Φ : α → Prop} (hb : BagAt c m) (h : Dr (c ++ e) m r Φ) : ∃ a c1, r = .ok a (c1 ++ e) ∧ Like c m c1 ∧ Φ a := by
  obtain ⟨a, c2, e1, l, p⟩ := h
  obtain ⟨c1, rfl, l1⟩ := l.split hb.lt
  exact ⟨a, c1, e1, l1, p⟩
section
variable {c : List Cell} {L : Nat} (hL : c.length = L) (A B X : Cell) (r : List Cell)
include hL
theorem cell_e0 : cellAt 0 (c ++ A :: r) L = some A := by
  unfold cellAt
  rw [if_pos (Nat.zero_le _), Nat.sub_zero, List.getElem?_append_right (by omega), hL, Nat.sub_self]
  rfl
theorem cell_e1 : cellAt 0 (c ++ A :: B :: r) (L + 1) = some B := by
  unfold cellAt
  rw [if_pos (Nat.zero_le _), Nat.sub_zero, List.getElem?_append_right (by omega), hL, Nat.add_sub_cancel_left]
  rfl
theorem set_e0 : setC 0 (c ++ A :: r) L X = c ++ X :: r := by
  unfold setC
  rw [Nat.sub_zero, List.set_append_right _ _ (by omega), hL, Nat.sub_self]
  rfl
theorem set_e1 : setC 0 (c ++ A :: B :: r) (L + 1) X = c ++ A :: X :: r := by
  unfold setC
  rw [Nat.sub_zero, List.set_append_right _ _ (by omega), hL, Nat.add_sub_cancel_left]
  rfl
end
theorem lst_cell {b : Nat} {c : List Cell} {n : Nat} {xs : List D} (h : cellAt b c n = some (.lst xs)) : lstCell b c (.ref n) = some xs := by
  unfold lstCell
  dsimp only
  rw [h]
theorem len_ref {call : Call} {b : Nat} {c : List Cell} {n : Nat} {xs : List D} (h : cellAt b c n = some (.lst xs)) : bltX P call .len [.ref n] b c = .ok (.int xs.length) c := by
  have e1 : ownLen P .len [.ref n] b c = none := by
    show (classOf b c (.ref n)).bind _ = none
    unfold classOf
    dsimp only
    rw [h]
    rfl
  unfold bltX
  rw [e1]
  show ofOpt (bltSem .len [.ref n] b c) c = _
  have e2 : bltSem .len [.ref n] b c = some (.int xs.length) := by
    show (lenSem b c (.ref n)).map _ = _
    unfold lenSem seqOf
    dsimp only
    rw [h]
    rfl
  rw [e2]
  rfl
/-- what is drawn of pairs so far -/
structure KInv (hs fr : List Str) (ps : List (Str × Src)) : Prop where
  nd : (ps.map (·.1) ++ fr).Nodup
  mem : ∀ x ∈ ps.map (·.1) ++ fr, x ∈ hs
  src : ∀ p ∈ ps, p.2.ok
  len : ps.length + fr.length ≤ 4
theorem KInv.next {hs fr : List Str} {ps : List (Str × Src)} (h : KInv hs fr ps) {k : Nat} {x : Str} (hk : fr[k]? = some x) {s : Src} (ho : s.ok) : KInv hs (fr.eraseIdx k) (ps ++ [(x, s)]) := by
  have hlt := (List.getElem?_eq_some_iff.mp hk).1
  have pm : (x :: fr.eraseIdx k).Perm fr := by
    have hx : fr[k] = x := (List.getElem?_eq_some_iff.mp hk).2
    have e1 : fr = fr.take k ++ x :: fr.drop (k + 1) := by rw [← hx, List.getElem_cons_drop, List.take_append_drop]
    rw [List.eraseIdx_eq_take_drop_succ]
    conv => rhs; rw [e1]
    exact List.perm_middle.symm
  have pm2 : ((ps ++ [(x, s)]).map (·.1) ++ fr.eraseIdx k).Perm (ps.map (·.1) ++ fr) := by
    have e : (ps ++ [(x, s)]).map (·.1) ++ fr.eraseIdx k = ps.map (·.1) ++ (x :: fr.eraseIdx k) := by simp
    rw [e]
    exact List.Perm.append_left _ pm
  refine ⟨pm2.nodup_iff.mpr h.nd, fun y hy => h.mem y (pm2.mem_iff.mp hy), fun p hp => ?_, ?_⟩
  · rcases List.mem_append.mp hp with z | z
    · exact h.src p z
    · rw [List.mem_singleton.mp z]; exact ho
  · have := h.len
    rw [List.length_append, List.length_eraseIdx, if_pos hlt]
    simp
    omega
def kbody : Ss := (.cons (.asg (.nm 6) (.call "_law_one" (.cons (.var 0) (.cons (.lst (.cons (.con (.str "any")) (.cons (.con (.str "any")) (.cons (.con .non) (.cons (.call "_law_integer" (.cons (.var 0) .nil) []) (.cons (.call "_law_integer" (.cons (.var 0) .nil) []) .nil))))) false) .nil)) []))
 (.cons (.expr (.app (.var 4) (.tup (.cons (.popi (.var 3) (.call "_law_draw" (.cons (.var 0) (.cons (.blt .len (.cons (.var 3) .nil)) .nil)) [])) (.cons (.var 6) .nil)))))
 .nil))
theorem kind_loop {hs : List Str} {n L m : Nat} {hd way : D} : ∀ (k : Nat) (a : Int) {c : List Cell} {fr : List Str} {ps : List (Str × Src)} (v0 w0 : Option D), BagAt c m → c.length = L → KInv hs fr ps → k ≤ fr.length →
    ∃ c1 fr' ps' v w, forL (fun x γ b c => match asgT (.nm 5) x γ with
      | some γ => evSs P (calls P (n + 3)) kbody γ b c
      | none => .bad) 0 (rngD a k) [some (.ref m), some hd, some way, some (.ref L), some (.ref (L + 1)), v0, w0, none] (c ++ [.lst (fr.map .str), .lst (ps.map pD)]) = .ok (.nx [some (.ref m), some hd, some way, some (.ref L), some (.ref (L + 1)), v, w, none]) (c1 ++ [.lst (fr'.map .str), .lst (ps'.map pD)]) ∧ Like c m c1 ∧ KInv hs fr' ps' ∧ ps'.length = ps.length + k
  | 0, a, c, fr, ps, v0, w0, hb, hL, hi, hk => ⟨c, fr, ps, v0, w0, rfl, .refl hb, hi, rfl⟩
  | k + 1, a, c, fr, ps, v0, w0, hb, hL, hi, hk => by
    obtain ⟨d1, c1, e1, l1, i1, rfl, i1a, i1b⟩ := Dr.app hb (s_integer (hb.app [.lst (fr.map .str), .lst (ps.map pD)]) n)
    obtain ⟨d2, c2, e2, l2, i2, rfl, i2a, i2b⟩ := Dr.app l1.bag (s_integer (l1.bag.app [.lst (fr.map .str), .lst (ps.map pD)]) n)
    obtain ⟨d3, c3, e3, l3, h3⟩ := Dr.app l2.bag (s_one (xs := [.str "any", .str "any", .non, .int i1, .int i2]) (by simp) (by simp) (l2.bag.app [.lst (fr.map .str), .lst (ps.map pD)]) (n + 1))
    obtain ⟨s, rfl, so⟩ : ∃ s : Src, d3 = s.d ∧ s.ok := by
      simp only [List.mem_cons, List.not_mem_nil, or_false] at h3
      rcases h3 with rfl | rfl | rfl | rfl | rfl
      · exact ⟨.any, rfl, trivial⟩
      · exact ⟨.any, rfl, trivial⟩
      · exact ⟨.val none, rfl, trivial⟩
      · exact ⟨.val (some i1), rfl, by show -900 ≤ i1 ∧ i1 ≤ 900; omega⟩
      · exact ⟨.val (some i2), rfl, by show -900 ≤ i2 ∧ i2 ≤ 900; omega⟩
    have hf := hi.len
    obtain ⟨d4, c4, e4, l4, v, rfl, v0', v1'⟩ := Dr.app l3.bag (s_draw (w := (fr.length : Int)) (by omega) (by omega) (l3.bag.app [.lst (fr.map .str), .lst (ps.map pD)]) (n + 2))
    obtain ⟨j, rfl⟩ := Int.eq_ofNat_of_zero_le v0'
    have hj : j < fr.length := by omega
    have l04 := ((l1.trans l2).trans l3).trans l4
    have L3 : c3.length = L := by rw [((l1.trans l2).trans l3).len, hL]
    have L4 : c4.length = L := by rw [l04.len, hL]
    obtain ⟨c5, fr', ps', v, w, ih, l5, k5, n5⟩ := kind_loop k (a + 1) (n := n) (hd := hd) (way := way) (some (.int a)) (some s.d) l4.bag L4 (hi.next (List.getElem?_eq_getElem hj) so) (by rw [List.length_eraseIdx, if_pos hj]; omega)
    refine ⟨c5, fr', ps', v, w, ?_, l04.trans l5, k5, by rw [n5]; simp; omega⟩
    rw [← ih, rngD, forL]
    have q1 : L2.ixN (fr.map D.str).length (j : Int) = some j := by
      unfold L2.ixN
      rw [if_pos (by omega), if_pos (by rw [List.length_map]; omega)]
      rfl
    have q2 : (fr.map D.str)[j]? = some (.str fr[j]) := by rw [List.getElem?_map, List.getElem?_eq_getElem hj]; rfl
    have q3 : (fr.map D.str).eraseIdx j = (fr.eraseIdx j).map .str := by rw [List.eraseIdx_eq_take_drop_succ, List.eraseIdx_eq_take_drop_succ, List.map_append, List.map_take, List.map_drop]
    have q4 : (ps ++ [(fr[j], s)]).map pD = ps.map pD ++ [.tup [.str fr[j], s.d]] := by simp [pD]
    have q5 : (ps.map pD).length < 16777216 := by simp; omega
    have q6 : -9223372036854775808 ≤ (j : Int) ∧ (j : Int) < 9223372036854775808 := by omega
    have q7 : ((fr.map D.str).length : Int) = (fr.length : Int) := by simp
    generalize hF : fr.map D.str = F at *
    generalize hPs : ps.map pD = PS at *
    rw [q4, ← q3]
    dsimp! [kbody, e1, e2, e3, Src.il, lst_cell (cell_e1 L3 _ _ _), lst_cell (cell_e0 L3 _ _), len_ref (cell_e0 L3 _ _), q7, e4, cell_e0 L4, cell_e1 L4, set_e0 L4, set_e1 L4, q1, q2, q5, q6.1, q6.2]
/-- plain cells -/
def Pln (c : List Cell) : Prop := ∀ x ∈ c, ∀ b, Cell.closed b x = true
theorem Pln.like {c c1 : List Cell} {m : Nat} (h : Pln c) (l : Like c m c1) : Pln c1 := by
  obtain ⟨⟨x, rfl⟩, hb⟩ := l
  intro y hy b
  rcases List.mem_or_eq_of_mem_set hy with z | z
  · exact h y z b
  · obtain ⟨p, q, k, h1, _⟩ := hb
    have hm := (List.getElem?_eq_some_iff.mp h1).1
    rw [List.getElem?_set_self (by simpa using hm)] at h1
    cases h1
    rw [z]
    rfl
theorem calls_trunc {f : Str} {F : Fun} (h : P.fun? f = some F) {n : Nat} {ds : List D} {c c1 e : List Cell} {d : D} {k : Nat} (hm : F.mode = .trunc) (hl : ds.length = F.np)
    (hr : (evSs P (calls P n) F.body (env0 F ds) 0 c).bind fin = .ok d (c1 ++ e)) (hc : c1.length = c.length) (hp : Pln c1) (hd : lay k d = true) : (calls P (n + 1)).fn f ds 0 c = .ok d c1 := by
  rw [calls_fn h]
  unfold callBy
  rw [hm]
  have hr2 : MP.run P (calls P n) F ds 0 c = .ok d (c1 ++ e) := by
    unfold MP.run
    rw [if_pos hl]
    exact hr
  dsimp only
  rw [hr2]
  dsimp only
  have t1 : (c1 ++ e).take c.length = c1 := by rw [← hc, List.take_left']; rfl
  have t2 : (c1.all (Cell.closed (0 + c.length)) && decide (c.length ≤ (c1 ++ e).length)) = true := by
    rw [Bool.and_eq_true]
    exact ⟨List.all_eq_true.mpr fun x hx => hp x hx _, decide_eq_true (by rw [List.length_append]; omega)⟩
  have t3 : freeze (0 + c.length) ((c1 ++ e).drop c.length) d = some d := by
    have cl := lay_closed (0 + c.length) hd
    unfold freeze
    cases d with
    | ref r => cases k <;> simp [MP.lay] at hd
    | _ => dsimp only; rw [if_pos cl]
  rw [t1, if_pos t2, t3]
theorem so_lst (b : Nat) (c : List Cell) (xs : List D) : seqOf b c (.lst xs) = some xs := rfl
theorem so_tup (b : Nat) (c : List Cell) (xs : List D) : seqOf b c (.tup xs) = some xs := rfl
theorem tup_ref {b : Nat} {c : List Cell} {n : Nat} {xs : List D} (h : cellAt b c n = some (.lst xs)) : bltSem .tuple [.ref n] b c = some (.tup xs) := by
  show (seqOf b c (.ref n)).map _ = _
  unfold seqOf
  dsimp only
  rw [h]
  rfl
/-- a kind of writes over some columns -/
def KD (hs : List Str) (d : D) : Prop := ∃ k : Knd, d = k.d ∧ k.ok ∧ ∀ y ∈ k.ment, y ∈ hs
theorem TD.ok {hs : List Str} {d : D} (h : TD hs 3 2 d) : ∃ t : Tst, d = t.d ∧ TOk t ∧ ∀ y ∈ t.cols, y ∈ hs := by
  obtain ⟨t, e, a, b, c, r⟩ := h
  exact ⟨t, e, ⟨a, b, c⟩, r⟩
theorem KInv.ok {hs fr : List Str} {ps : List (Str × Src)} (h : KInv hs fr ps) (hn : ∀ x ∈ hs, Nm x) : PairsOk ps true :=
  ⟨fun p hp => hn _ (h.mem _ (List.mem_append_left _ (List.mem_map.mpr ⟨p, hp, rfl⟩))), h.src, fun z => (nomatch z), (List.nodup_append.mp h.nd).1, by have := h.len; omega⟩
theorem s_kind {hs : List Str} (hn : ∀ x ∈ hs, Nm x) (hd : hs.Nodup) (h1 : 1 ≤ hs.length) (h4 : hs.length ≤ 4) {c : List Cell} {m : Nat} (hb : BagAt c m) (hp : Pln c) (n : Nat) : Dr c m ((calls P (n + 8)).fn "_law_kind" [.ref m, .lst (hs.map .str)] 0 c) (KD hs) := by
  have tt : ∀ {c1 : List Cell} (e : List Cell), BagAt c1 m → ∃ t c2, (calls P (n + 7)).fn "_law_test" [.ref m, .lst (hs.map .str), .int 2, .int 3] 0 (c1 ++ e) = .ok t.d (c2 ++ e) ∧ Like c1 m c2 ∧ TOk t ∧ ∀ y ∈ t.cols, y ∈ hs := fun {c1} e b1 => by
    obtain ⟨d, c2, q, l, td⟩ := Dr.app b1 (s_test hn h1 (by omega) 3 (most := 2) (by omega) (by omega) (by omega) (by omega) _ _ (b1.app e) n)
    obtain ⟨t, rfl, ok, cs⟩ := td.ok
    exact ⟨t, c2, q, l, ok, cs⟩
  obtain ⟨d1, c1, e1, l1, v, rfl, v0, v1⟩ := s_draw (w := 6) (by decide) (by decide) hb (n + 6)
  have L1 := l1.len
  generalize hL : c.length = L at L1
  have h6 : hs.length ≤ 16777216 := by omega
  by_cases e0 : v = 0
  · subst e0
    obtain ⟨t, c2, e2, l2, t1, t2⟩ := tt [.lst (hs.map .str), .lst []] l1.bag
    have l02 := l1.trans l2
    refine ⟨(Knd.del t).d, c2, calls_trunc (e := [.lst (hs.map .str), .lst []]) (k := 4) f__law_kind rfl rfl ?_ l02.len (hp.like l02) (Knd.lay (k := .del t) t1 (j := 0)), l02, .del t, rfl, t1, t2⟩
    dsimp! [c__law_kind, e1, nl_t, L1, h6, eq_int, e2, Knd.d, so_lst]
  · have small : ∀ k : Nat, k ≤ 5 → small62 (k : Int) = true := fun k hk => by
      unfold small62
      rw [decide_eq_true (show -(2 ^ 62 : Int) ≤ (k : Int) by omega), decide_eq_true (show (k : Int) < 2 ^ 62 by omega)]
      rfl
    have inv0 : KInv hs hs [] := ⟨by simpa using hd, fun x hx => by simpa using hx, fun p hp => (nomatch hp), by simpa using h4⟩
    have ki : ∀ {fr : List Str} {ps : List (Str × Src)}, KInv hs fr ps → ∀ y ∈ ps.map (·.1), y ∈ hs := fun h y hy => h.mem y (List.mem_append_left _ hy)
    by_cases e3 : v < 3
    · obtain ⟨d2, c2, e2, l2, u, rfl, u0, u1⟩ := Dr.app l1.bag (s_draw (w := (hs.length : Int) + 1) (by omega) (by omega) (l1.bag.app [.lst (hs.map .str), .lst []]) (n + 6))
      obtain ⟨k, rfl⟩ := Int.eq_ofNat_of_zero_le u0
      have L2 : c2.length = L := by rw [l2.len, L1]
      obtain ⟨c3, fr', ps', v', w', e4, l3, inv, pl⟩ := kind_loop (n := n + 4) (hd := .lst (hs.map .str)) (way := .int v) k 0 none none l2.bag L2 inv0 (by omega)
      have L3 : c3.length = L := by rw [l3.len, L2]
      obtain ⟨t, c4, e5, l4, t1, t2⟩ := tt [.lst (fr'.map .str), .lst (ps'.map pD)] l3.bag
      obtain ⟨d5, c5, e6, l5, h5⟩ := Dr.app l4.bag (s_one (xs := [.tup [.str "true"], t.d]) (by simp) (by simp) (l4.bag.app [.lst (fr'.map .str), .lst (ps'.map pD)]) (n + 5))
      have l05 := (((l1.trans l2).trans l3).trans l4).trans l5
      have L5 : c5.length = L := by rw [l05.len, hL]
      obtain ⟨t', rfl, t1', t2'⟩ : ∃ t', d5 = Tst.d t' ∧ TOk t' ∧ ∀ y ∈ t'.cols, y ∈ hs := by
        simp only [List.mem_cons, List.not_mem_nil, or_false] at h5
        rcases h5 with rfl | rfl
        · exact ⟨.tru, rfl, ⟨trivial, by simp [Tst.deep], by simp [Tst.plain]⟩, fun y hy => by simp [Tst.cols] at hy⟩
        · exact ⟨t, rfl, t1, t2⟩
      have ko : (Knd.ins ps' t').ok := ⟨inv.ok hn, t1'⟩
      refine ⟨(Knd.ins ps' t').d, c5, calls_trunc (e := [.lst (fr'.map .str), .lst (ps'.map pD)]) (k := 4) f__law_kind rfl rfl ?_ l05.len (hp.like l05) (Knd.lay ko (j := 0)), l05, _, rfl, ko, fun y hy => (List.mem_append.mp hy).elim (ki inv y) (t2' y)⟩
      have sk := small k (by omega)
      dsimp! [c__law_kind, e1, nl_t, L1, h6, eq_int, so_lst, e0, e3, len_ref (cell_e0 L1 _ _), e2, sk]
      simp only [rb_assoc]
      refine (bind_left _ e4).trans ?_
      dsimp! [e5, Tst.il, e6, e3, tup_ref (cell_e1 L5 _ _ _), Knd.d]
    · obtain ⟨d2, c2, e2, l2, u, rfl, u0, u1⟩ := Dr.app l1.bag (s_draw (w := (hs.length : Int)) (by omega) (by omega) (l1.bag.app [.lst (hs.map .str), .lst []]) (n + 6))
      obtain ⟨k, rfl⟩ := Int.eq_ofNat_of_zero_le u0
      have L2 : c2.length = L := by rw [l2.len, L1]
      obtain ⟨c3, fr', ps', v', w', e4, l3, inv, pl⟩ := kind_loop (n := n + 4) (hd := .lst (hs.map .str)) (way := .int v) (1 + k) 0 none none l2.bag L2 inv0 (by omega)
      have L3 : c3.length = L := by rw [l3.len, L2]
      obtain ⟨t, c4, e5, l4, t1, t2⟩ := tt [.lst (fr'.map .str), .lst (ps'.map pD)] l3.bag
      obtain ⟨d5, c5, e6, l5, h5⟩ := Dr.app l4.bag (s_one (xs := [.tup [.str "true"], t.d]) (by simp) (by simp) (l4.bag.app [.lst (fr'.map .str), .lst (ps'.map pD)]) (n + 5))
      obtain ⟨s, c6, e7, l6, s1, s2⟩ := tt [.lst (fr'.map .str), .lst (ps'.map pD)] l5.bag
      have l05 := (((l1.trans l2).trans l3).trans l4).trans l5
      have l06 := l05.trans l6
      have L5 : c5.length = L := by rw [l05.len, hL]
      obtain ⟨t', rfl, t1', t2'⟩ : ∃ t', d5 = Tst.d t' ∧ TOk t' ∧ ∀ y ∈ t'.cols, y ∈ hs := by
        simp only [List.mem_cons, List.not_mem_nil, or_false] at h5
        rcases h5 with rfl | rfl
        · exact ⟨.tru, rfl, ⟨trivial, by simp [Tst.deep], by simp [Tst.plain]⟩, fun y hy => by simp [Tst.cols] at hy⟩
        · exact ⟨t, rfl, t1, t2⟩
      have ko : (Knd.upd ps' s t').ok := ⟨inv.ok hn, by rw [pl]; simp, s1, t1'⟩
      refine ⟨(Knd.upd ps' s t').d, c6, calls_trunc (e := [.lst (fr'.map .str), .lst (ps'.map pD)]) (k := 4) f__law_kind rfl rfl ?_ l06.len (hp.like l06) (Knd.lay ko (j := 0)), l06, _, rfl, ko, fun y hy => ?_⟩
      · have sk := small (1 + k) (by omega)
        have ek : ((1 + k : Nat) : Int) = 1 + (k : Int) := by omega
        rw [ek] at sk
        have ek2 : (1 + (k : Int)).toNat = 1 + k := by omega
        dsimp! [c__law_kind, e1, nl_t, L1, h6, eq_int, so_lst, e0, e3, len_ref (cell_e0 L1 _ _), e2, sk, ek2]
        simp only [rb_assoc]
        refine (bind_left _ e4).trans ?_
        dsimp! [e5, Tst.il, e6, e3, tup_ref (cell_e1 L5 _ _ _), e7, Knd.d]
      · rcases List.mem_append.mp hy with hy | hy
        · exact (List.mem_append.mp hy).elim (ki inv y) (s2 y)
        · exact t2' y hy
end Hk01
end
section
set_option maxRecDepth 100000
set_option maxHeartbeats 1000000
namespace Hk01
open PySem MP
theorem nm_a : Nm "a" := ⟨fun n b c => by rw [calls_keep f_is_name rfl rfl]; kernel_rfl, by decide +kernel, by decide +kernel⟩
theorem nm_b : Nm "b" := ⟨fun n b c => by rw [calls_keep f_is_name rfl rfl]; kernel_rfl, by decide +kernel, by decide +kernel⟩
theorem nm_ab : Nm "ab" := ⟨fun n b c => by rw [calls_keep f_is_name rfl rfl]; kernel_rfl, by decide +kernel, by decide +kernel⟩
theorem nm_z : Nm "z" := ⟨fun n b c => by rw [calls_keep f_is_name rfl rfl]; kernel_rfl, by decide +kernel, by decide +kernel⟩
theorem nm_c : Nm "c" := ⟨fun n b c => by rw [calls_keep f_is_name rfl rfl]; kernel_rfl, by decide +kernel, by decide +kernel⟩
theorem nm_d : Nm "d" := ⟨fun n b c => by rw [calls_keep f_is_name rfl rfl]; kernel_rfl, by decide +kernel, by decide +kernel⟩
theorem nm_ra : Nm "ra" := ⟨fun n b c => by rw [calls_keep f_is_name rfl rfl]; kernel_rfl, by decide +kernel, by decide +kernel⟩
theorem nm_rb : Nm "rb" := ⟨fun n b c => by rw [calls_keep f_is_name rfl rfl]; kernel_rfl, by decide +kernel, by decide +kernel⟩
theorem nm_rc : Nm "rc" := ⟨fun n b c => by rw [calls_keep f_is_name rfl rfl]; kernel_rfl, by decide +kernel, by decide +kernel⟩
theorem nm_rd : Nm "rd" := ⟨fun n b c => by rw [calls_keep f_is_name rfl rfl]; kernel_rfl, by decide +kernel, by decide +kernel⟩
theorem nm_low : Nm "low" := ⟨fun n b c => by rw [calls_keep f_is_name rfl rfl]; kernel_rfl, by decide +kernel, by decide +kernel⟩
theorem nm_big : Nm "big" := ⟨fun n b c => by rw [calls_keep f_is_name rfl rfl]; kernel_rfl, by decide +kernel, by decide +kernel⟩
theorem Like.keep {c c1 : List Cell} {m i : Nat} (h : Like c m c1) (hi : i ≠ m) : c1[i]? = c[i]? := by
  obtain ⟨⟨x, rfl⟩, _⟩ := h
  rw [List.getElem?_set_ne (fun z => hi z.symm)]
theorem eq_nilL {xs : List Str} (h : ∀ x ∈ xs, Nm x) (b : Nat) (c : List Cell) : eqSem b c (.lst (xs.map .str)) (.lst []) = some (decide (xs = [])) := by
  rw [eqSem_lay (k := 1) (m := 1) (lay_lst (layL_map fun x hx => lay_str (h x hx).st)) (lay_lst layL_nil)]
  cases xs <;> rfl
theorem bs_max (b : Nat) (c : List Cell) (i j : Int) : bltSem .max [.int i, .int j] b c = some (.int (if j > i then j else i)) := rfl
theorem st_ix (s : Std) (b : Nat) (c : List Cell) : ixSem b c s.law (.int 0) = some (.lst (s.cols.map cD)) ∧ ixSem b c s.law (.int 1) = some (.lst (s.rules.map rD)) ∧ ixSem b c s.law (.int 2) = some (.lst (s.act.map .str)) := by
  refine ⟨?_, ?_, ?_⟩ <;> (unfold Std.law; rw [ix_lst]; simp)
theorem law_il (s : Std) : isLam s.law = false := rfl
/-- a value that is drawn -/
theorem vdraw {c : List Cell} {m : Nat} (hb : BagAt c m) (n : Nat) : ∃ i c1 v c2, (calls P (n + 3)).fn "_law_integer" [.ref m] 0 c = .ok (.int i) c1 ∧ (calls P (n + 3)).fn "_law_one" [.ref m, .lst [.non, .int i]] 0 c1 = .ok (vD v) c2 ∧ vOk v ∧ Like c m c2 := by
  obtain ⟨_, c1, e1, l1, i, rfl, i0, i3⟩ := s_integer hb n
  obtain ⟨d, c2, e2, l2, h2⟩ := s_one (xs := [.non, .int i]) (by simp) (by simp) l1.bag (n + 1)
  simp only [List.mem_cons, List.not_mem_nil, or_false] at h2
  rcases h2 with rfl | rfl
  · exact ⟨i, c1, none, c2, e1, e2, trivial, l1.trans l2⟩
  · exact ⟨i, c1, some i, c2, e1, e2, ⟨by omega, by omega⟩, l1.trans l2⟩
theorem odraw {xs : List Str} (h1 : 1 ≤ xs.length) (h2 : xs.length < 1000) {c : List Cell} {m : Nat} (hb : BagAt c m) (n : Nat) : ∃ x c1, (calls P (n + 2)).fn "_law_one" [.ref m, .lst (xs.map .str)] 0 c = .ok (.str x) c1 ∧ Like c m c1 ∧ x ∈ xs := by
  obtain ⟨d, c1, e, l, h⟩ := s_one (xs := xs.map .str) (by simpa using h1) (by simpa using h2) hb n
  obtain ⟨x, hx, rfl⟩ := List.mem_map.mp h
  exact ⟨x, c1, e, l, hx⟩
theorem tdraw {hs : List Str} (hn : ∀ x ∈ hs, Nm x) (h1 : 1 ≤ hs.length) (h2 : hs.length < 1000) {c : List Cell} {m : Nat} (hb : BagAt c m) (n : Nat) : ∃ t c1, (calls P (n + 7)).fn "_law_test" [.ref m, .lst (hs.map .str), .int 2, .int 3] 0 c = .ok t.d c1 ∧ Like c m c1 ∧ TOk t ∧ ∀ y ∈ t.cols, y ∈ hs := by
  obtain ⟨d, c1, e, l, td⟩ := s_test hn h1 h2 3 (most := 2) (by omega) (by omega) (by omega) (by omega) _ _ hb n
  obtain ⟨t, rfl, ok, cs⟩ := td.ok
  exact ⟨t, c1, e, l, ok, cs⟩
theorem s_drawn_step {ws : List (Str × Knd)} (hw : WOk ws) {s : Std} (h : SOk s) {c : List Cell} {m pr : Nat} {e1 e3 e4 : D} {e0s : List D} (hb : BagAt c m) (hpr : pr ≠ m) (hc : c[pr]? = some (.lst [.tup e0s, e1, .tup (ws.map wD), e3, e4])) (n : Nat) :
    Dr c m ((calls P (n + 8)).fn "_law_drawn_step" [.ref m, .ref pr, s.law] 0 c) fun d => ∃ st : Stp, d = st.d ∧ Drawn ws s st := by
  rw [calls_keep f__law_drawn_step rfl rfl]
  have hn : ∀ x ∈ s.heads, Nm x := fun x hx => by obtain ⟨p, hp, rfl⟩ := List.mem_map.mp hx; exact h.nm p hp
  have hf : ∀ x ∈ s.forced, Nm x := fun x hx => by obtain ⟨p, hp, rfl⟩ := List.mem_map.mp hx; exact (h.rn p hp).1
  have hwn : ∀ x ∈ ws.map (·.1), Nm x := fun x hx => by obtain ⟨p, hp, rfl⟩ := List.mem_map.mp hx; exact hw.nm p hp
  have h4 := h.few
  have hh1 : 1 ≤ s.heads.length := by rw [heads_len]; exact h.one
  have hh2 : s.heads.length < 1000 := by rw [heads_len]; omega
  have hr := h.rl
  have hw3 := hw.few
  obtain ⟨_, c1, a1, l1, v, rfl, v0, v1⟩ := s_draw (w := 12) (by decide) (by decide) hb (n + 6)
  obtain ⟨fr, c2, a2, l2, f2⟩ := odraw (xs := ["ra", "rb", "rc", "rd", "low", "big"]) (by simp) (by simp) l1.bag (n + 5)
  have nfr : Nm fr := by
    simp only [List.mem_cons, List.not_mem_nil, or_false] at f2
    rcases f2 with rfl | rfl | rfl | rfl | rfl | rfl
    · exact nm_ra
    · exact nm_rb
    · exact nm_rc
    · exact nm_rd
    · exact nm_low
    · exact nm_big
  have l02 := l1.trans l2
  have hc1 : c1[pr]? = some (.lst [.tup e0s, e1, .tup (ws.map wD), e3, e4]) := by rw [l1.keep hpr]; exact hc
  have hc2 : c2[pr]? = some (.lst [.tup e0s, e1, .tup (ws.map wD), e3, e4]) := by rw [l02.keep hpr]; exact hc
  dsimp! [c__law_drawn_step, law_il, (st_ix s 0 c).1]
  rw [compL_mapT (f := fun p : Str × Option Int => .str p.1) (fun p _ => by dsimp! [cD]) (by simp [MP.sizeLine]; omega)]
  have k1 : s.cols.length ≤ 16777216 := by omega
  dsimp! [k1, law_il, (st_ix s 0 c).2.1]
  rw [compL_mapT (f := fun p : Str × Tst => .str p.1) (fun p _ => by dsimp! [rD]) (by simp [MP.sizeLine]; omega)]
  have k2 : s.rules.length ≤ 16777216 := by omega
  dsimp! [k2, law_il, (st_ix s 0 c).2.2, a1, ix_at hc1]
  rw [compL_mapT (f := fun p : Str × Knd => .str p.1) (fun p _ => by dsimp! [wD]) (by simp [MP.sizeLine]; omega)]
  have k3 : ws.length ≤ 16777216 := by omega
  have w1 : s.cols.map (fun p : Str × Option Int => D.str p.1) = s.heads.map .str := by simp [Std.heads]
  have w2 : s.rules.map (fun p : Str × Tst => D.str p.1) = s.forced.map .str := by simp [Std.forced]
  have w3 : ws.map (fun p : Str × Knd => D.str p.1) = (ws.map (·.1)).map .str := by simp
  simp only [List.map_cons, List.map_nil] at a2
  rw [w1, w2, w3]
  generalize hwsn : ws.map (·.1) = wn at hwn
  have k3' : wn.length ≤ 16777216 := by rw [← hwsn]; simpa using k3
  dsimp! [k3', a2]
  have done_ : ∀ {st : Stp} {c9 : List Cell}, Like c m c9 → Drawn ws s st → Dr c m (.ok st.d c9) fun d => ∃ st : Stp, d = st.d ∧ Drawn ws s st := fun {st c9} l d => ⟨_, _, rfl, l, st, rfl, d⟩
  by_cases q1 : v < 2
  · obtain ⟨t, c3, a3, l3, t1, t2⟩ := tdraw hn hh1 hh2 l02.bag n
    dsimp! [q1, a3]
    exact done_ (st := .add fr t) (l02.trans l3) ⟨nfr, t1, t2⟩
  by_cases q2 : v < 5 ∧ s.forced ≠ []
  · have fl : 1 ≤ s.forced.length := by cases hz : s.forced with | nil => exact absurd hz q2.2 | cons _ _ => simp
    have fl2 : s.forced.length < 1000 := by have : s.forced.length = s.rules.length := by simp [Std.forced]
                                            omega
    obtain ⟨wd, c3, a3, l3, w3⟩ := odraw (xs := ["look", "look", "drop"]) (by simp) (by simp) l02.bag (n + 5)
    obtain ⟨x, c4, a4, l4, x4⟩ := odraw (xs := s.forced) fl fl2 l3.bag (n + 5)
    simp only [List.map_cons, List.map_nil] at a3
    dsimp! [q1, q2.1, q2.2, eq_nilL hf, a3, a4]
    simp only [List.mem_cons, List.not_mem_nil, or_false] at w3
    have l04 := (l02.trans l3).trans l4
    rcases w3 with rfl | rfl | rfl
    · exact done_ (st := .look x) l04 (hf x x4)
    · exact done_ (st := .look x) l04 (hf x x4)
    · exact done_ (st := .drop x) l04 (hf x x4)
  have hq2 : ∀ c : List Cell, (if v < 5 then (Res.ok (!decide (s.forced = [])) c : Res Bool) else Res.ok false c) = Res.ok false c := fun c => by
    by_cases z : v < 5
    · have : s.forced = [] := by
        by_cases w : s.forced = []
        · exact w
        · exact absurd ⟨z, w⟩ q2
      simp [z, this]
    · simp [z]
  by_cases q3 : v < 7 ∧ wn ≠ []
  · have fl : 1 ≤ wn.length := by cases hz : wn with | nil => exact absurd hz q3.2 | cons _ _ => simp
    have fl2 : wn.length < 1000 := by rw [← hwsn]; simp; omega
    obtain ⟨x, c3, a3, l3, x3⟩ := odraw (xs := wn) fl fl2 l02.bag (n + 5)
    have nx := hwn x x3
    by_cases q4 : x ∈ s.act
    · dsimp! [q1, eq_nilL hf, hq2, q3.1, q3.2, eq_nilL hwn, a3, any_strs, q4]
      exact done_ (st := .fin x) (l02.trans l3) ⟨nx, by rw [hwsn]; exact x3, q4⟩
    · dsimp! [q1, eq_nilL hf, hq2, q3.1, q3.2, eq_nilL hwn, a3, any_strs, q4]
      exact done_ (st := .beg x) (l02.trans l3) ⟨nx, by rw [hwsn]; exact x3, q4⟩
  have hq3 : ∀ c : List Cell, (if v < 7 then (Res.ok (!decide (wn = [])) c : Res Bool) else Res.ok false c) = Res.ok false c := fun c => by
    by_cases z : v < 7
    · have : wn = [] := by
        by_cases w : wn = []
        · exact w
        · exact absurd ⟨z, w⟩ q3
      simp [z, this]
    · simp [z]
  by_cases q5 : v = 7
  · obtain ⟨x, c3, a3, l3, x3⟩ := odraw (xs := s.heads) hh1 hh2 l02.bag (n + 5)
    obtain ⟨i, c4, u, c5, a4, a5, u1, l5⟩ := vdraw l3.bag (n + 4)
    dsimp! [q1, eq_nilL hf, hq2, hq3, eq_nilL hwn, eq_int, q5, a3, a4, a5, vD_il]
    exact done_ (st := .dfl x u) ((l02.trans l3).trans l5) ⟨hn x x3, x3, u1⟩
  have ec : ∀ b c, bltSem .len [D.tup e0s] b c = some (.int e0s.length) := fun _ _ => rfl
  by_cases q6 : v = 8 ∧ (s.heads.length : Int) < (if (2 : Int) < (e0s.length : Int) then (e0s.length : Int) else 2)
  · obtain ⟨x, c3, a3, l3, x3⟩ := odraw (xs := ["c", "d", "a"]) (by simp) (by simp) l02.bag (n + 5)
    obtain ⟨i, c4, u, c5, a4, a5, u1, l5⟩ := vdraw l3.bag (n + 4)
    simp only [List.map_cons, List.map_nil] at a3
    have nx : Nm x := by
      simp only [List.mem_cons, List.not_mem_nil, or_false] at x3
      rcases x3 with rfl | rfl | rfl
      · exact nm_c
      · exact nm_d
      · exact nm_a
    obtain ⟨q6a, q6b⟩ := q6
    subst q6a
    dsimp! [eq_nilL hf, eq_nilL hwn, eq_int, ix_at hc2, bs_max]
    rw [if_pos q6b]
    dsimp! [a3, a4, a5, vD_il]
    exact done_ (st := .col x u) ((l02.trans l3).trans l5) ⟨nx, u1⟩
  have hq6 : ∀ c : List Cell, (if v = 8 then (Res.ok (decide ((s.heads.length : Int) < (if (2 : Int) < (e0s.length : Int) then (e0s.length : Int) else 2))) c : Res Bool) else Res.ok false c) = Res.ok false c := fun c => by
    by_cases z : v = 8
    · have : ¬ (s.heads.length : Int) < (if (2 : Int) < (e0s.length : Int) then (e0s.length : Int) else 2) := fun w => q6 ⟨z, w⟩
      rw [if_pos z, decide_eq_false this]
    · rw [if_neg z]
  obtain ⟨x, c3, a3, l3, x3⟩ := odraw (xs := s.heads) hh1 hh2 l02.bag (n + 5)
  have nx := hn x x3
  by_cases q8 : v = 9
  · subst q8
    dsimp! [eq_nilL hf, eq_nilL hwn, eq_int, ix_at hc2, bs_max, a3]
    exact done_ (st := .rem x) (l02.trans l3) ⟨nx, x3⟩
  · obtain ⟨i, c4, u, c5, a4, a5, u1, l5⟩ := vdraw l3.bag (n + 4)
    obtain ⟨t, c6, a6, l6, t1, t2⟩ := tdraw hn hh1 hh2 l5.bag n
    dsimp! [q1, eq_nilL hf, hq2, hq3, eq_nilL hwn, eq_int, q5, ix_at hc2, bs_max]
    rw [hq6]
    dsimp! [q8, eq_int, a3, a4, a5, a6, vD_il]
    exact done_ (st := .fil x u t) (((l02.trans l3).trans l5).trans l6) ⟨nx, x3, u1, t1, t2⟩
end Hk01
end
section
set_option maxRecDepth 100000
set_option maxHeartbeats 1000000
namespace Hk01
open PySem MP
def oL (o : Option Std) : D := match o with
  | none => .non
  | some s => s.law
theorem vD_ix (b : Nat) (c : List Cell) (x y z : D) : ixSem b c (.tup [x, y, z]) (.int 2) = some z := by rw [ix_tup, atI_2]
theorem law_tl (s : Std) : ∃ a b d, s.law = .lst [.lst a, .lst b, .lst d] := ⟨_, _, _, rfl⟩
theorem eq_nilM {α : Type} {e : α → D} {xs : List α} {k : Nat} (h : lay k (.lst (xs.map e)) = true) (hk : k ≤ 64) (b : Nat) (c : List Cell) : eqSem b c (.lst (xs.map e)) (.lst []) = some (decide (xs = [])) := by
  rw [eqSem_lay h (lay_lst (k := 0) layL_nil) hk]
  cases xs <;> rfl
theorem eq_nn (b : Nat) (c : List Cell) : eqSem b c (.lst []) (.lst []) = some true := by rw [eqSem_lay (k := 1) (m := 1) (lay_lst layL_nil) (lay_lst layL_nil)]; rfl
theorem map_inj {α : Type} {f : α → Str} : ∀ {xs : List α}, (xs.map f).Nodup → ∀ {a b : α}, a ∈ xs → b ∈ xs → f a = f b → a = b
  | [], _, _, _, h, _, _ => by cases h
  | x :: xs, nd, a, b, ha, hb, e => by
    rw [List.map_cons, List.nodup_cons] at nd
    rcases List.mem_cons.mp ha with ha | ha <;> rcases List.mem_cons.mp hb with hb | hb
    · rw [ha, hb]
    · exact absurd (List.mem_map.mpr ⟨b, hb, by rw [← e, ha]⟩) nd.1
    · exact absurd (List.mem_map.mpr ⟨a, ha, by rw [e, hb]⟩) nd.1
    · exact map_inj nd.2 ha hb e
theorem one_left {cs : List (Str × Option Int)} {x : Str} (hd : (cs.map (·.1)).Nodup) (hx : x ∈ cs.map (·.1)) : cs.filter (fun p : Str × Option Int => !decide (p.1 = x)) = [] ↔ cs.length = 1 := by
  rw [List.filter_eq_nil_iff]
  cases cs with
  | nil => cases hx
  | cons p r =>
    cases r with
    | nil =>
      have : x = p.1 := by simpa using hx
      simp [this]
    | cons q r =>
      refine ⟨fun h => ?_, fun h => by simp at h⟩
      have h1 : p.1 = x := by have := h p (by simp); simpa using this
      have h2 : q.1 = x := by have := h q (by simp); simpa using this
      rw [List.map_cons, List.map_cons, List.nodup_cons] at hd
      exact absurd (by rw [h1, h2]; simp) hd.1
theorem ment_nm {k : Knd} (h : k.ok) : ∀ y ∈ k.ment, Nm y := by
  have pn : ∀ {ps : List (Str × Src)}, PairsOk ps true → ∀ y ∈ ps.map (·.1), Nm y := fun h y hy => by obtain ⟨p, hp, rfl⟩ := List.mem_map.mp hy; exact h.nm p hp
  intro y hy
  cases k with
  | ins ps t => exact (List.mem_append.mp hy).elim (pn h.1 y) (Tst.nm h.2.ok y)
  | upd ps t u =>
    rcases List.mem_append.mp hy with hy | hy
    · exact (List.mem_append.mp hy).elim (pn h.1 y) (Tst.nm h.2.2.1.ok y)
    · exact Tst.nm h.2.2.2.ok y hy
  | del t => exact Tst.nm (TOk.ok h) y hy
theorem s_law_after {ws : List (Str × Knd)} (hw : WOk ws) {s : Std} (h : SOk s) (haw : ∀ x ∈ s.act, x ∈ ws.map (·.1)) {st : Stp} (hd : Drawn ws s st) {pd : D} (hil : isLam pd = false) {b : Nat} {c : List Cell} (hI : ixSem b c pd (.int 2) = some (.tup (ws.map wD))) (n : Nat) :
    (calls P (n + 6)).fn "_law_after" [pd, s.law, st.d] b c = .ok (oL (aft ws s st)) c := by
  rw [calls_keep f__law_after rfl rfl]
  have h4 := h.few
  have hr := h.rl
  have ha := h.al
  have k1 : s.cols.length ≤ 16777216 := by omega
  have k2 : s.rules.length ≤ 16777216 := by omega
  have w1 : s.cols.map (fun p : Str × Option Int => D.str p.1) = s.heads.map .str := by simp [Std.heads]
  have w2 : s.rules.map (fun p : Str × Tst => D.str p.1) = s.forced.map .str := by simp [Std.forced]
  have lx : s.law = .lst [.lst (s.cols.map cD), .lst (s.rules.map rD), .lst (s.act.map .str)] := rfl
  have f1 : s.forced.length = s.rules.length := by simp [Std.forced]
  have k3 : s.heads.length ≤ 16777216 := by rw [heads_len]; omega
  have k4 : s.forced.length ≤ 16777216 := by omega
  rw [lx]
  dsimp! [c__law_after, Stp.il]
  rw [compL_mapT (f := fun p : Str × Option Int => .str p.1) (fun p _ => by dsimp! [cD]) (by simp [MP.sizeLine]; omega), w1]
  dsimp! [k3]
  rw [compL_mapT (f := fun p : Str × Tst => .str p.1) (fun p _ => by dsimp! [rD]) (by simp [MP.sizeLine]; omega), w2]
  dsimp! [k4, hil, hI, wdic_of hw, Stp.il]
  cases st with
  | add x t =>
    obtain ⟨d1, d2, d3⟩ := hd
    by_cases c1 : x ∈ s.forced
    · dsimp! [Stp.d, eq_str, d1.st, any_strs, c1, aft, oL]
    · by_cases c2 : s.rules.length = 4
      · have c3 : s.forced.length = 4 := by omega
        dsimp! [Stp.d, eq_str, d1.st, any_strs, c1, eq_int, c3, c2, aft, oL]
      · have c3 : ¬ (s.forced.length : Int) = 4 := by omega
        have k5 : s.rules.length + 1 ≤ 16777216 := by omega
        dsimp! [Stp.d, eq_str, d1.st, any_strs, c1, eq_int, c3, c2, aft, oL, Tst.il, k5, Std.law, rD]
  | look x =>
    have d1 : Nm x := hd
    by_cases c1 : x ∈ s.forced
    · dsimp! [Stp.d, eq_str, d1.st, any_strs, c1, aft, oL, Std.law]
    · dsimp! [Stp.d, eq_str, d1.st, any_strs, c1, aft, oL, Std.law]
  | drop x =>
    have d1 : Nm x := hd
    dsimp! [Stp.d, eq_str, d1.st, any_strs]
    rw [compL_filT (f := fun p : Str × Tst => if p.1 = x then none else some (rD p)) (fun p hp => by
      have q := (h.rn p hp).1.st
      by_cases e : p.1 = x
      · subst e
        dsimp! [rD, eq_str, q]
      · dsimp! [rD, eq_str, q, d1.st, e]) (by simp [MP.sizeLine]; omega), fm_not (fun p : Str × Tst => p.1 = x)]
    have h6 := fil_len (q := fun p : Str × Tst => !decide (p.1 = x)) (show s.rules.length ≤ 16777216 by omega)
    by_cases c1 : x ∈ s.forced
    · dsimp! [h6, any_strs, c1, aft, oL, Std.law]
    · dsimp! [h6, any_strs, c1, aft, oL, Std.law]
  | fin x =>
    obtain ⟨d1, d2, d3⟩ := hd
    dsimp! [Stp.d, eq_str, d1.st]
    rw [compL_filT (f := fun y : Str => if y = x then none else some (.str y)) (fun y hy => by
      have q := (h.an y hy).st
      by_cases e : y = x
      · subst e
        dsimp! [eq_str, q]
      · dsimp! [eq_str, q, d1.st, e]) (by simp [MP.sizeLine]; omega), fm_not (fun y : Str => y = x)]
    have h6 := fil_len (q := fun y : Str => !decide (y = x)) (show s.act.length ≤ 16777216 by omega)
    dsimp! [h6, aft, oL, Std.law]
  | dfl x v =>
    obtain ⟨d1, d2, d3⟩ := hd
    dsimp! [Stp.d, eq_str, d1.st]
    rw [compL_mapT (f := fun p : Str × Option Int => cD (p.1, if p.1 = x then v else p.2)) (fun p hp => by
      have q := (h.nm p hp).st
      by_cases e : p.1 = x
      · subst e
        dsimp! [cD, eq_str, q, vD_il]
      · dsimp! [cD, eq_str, q, d1.st, e, vD_il]) (by simp [MP.sizeLine]; omega)]
    dsimp! [k1, aft, oL, Std.law]
  | col x v =>
    obtain ⟨d1, d3⟩ := hd
    by_cases c1 : x ∈ s.heads
    · dsimp! [Stp.d, eq_str, d1.st, any_strs, c1, aft, oL]
    · by_cases c2 : s.cols.length < 4
      · have c3 : (s.heads.length : Int) < 4 := by rw [heads_len]; omega
        have k5 : s.cols.length + 1 ≤ 16777216 := by omega
        dsimp! [Stp.d, eq_str, d1.st, any_strs, c1, c3, c2, aft, oL, k5, Std.law, cD]
      · have c3 : ¬ (s.heads.length : Int) < 4 := by rw [heads_len]; omega
        dsimp! [Stp.d, eq_str, d1.st, any_strs, c1, c3, c2, aft, oL]
  | fil x v t =>
    dsimp! [Stp.d, eq_str, aft, oL, Std.law]
  | beg x =>
    obtain ⟨d1, d2, d3⟩ := hd
    obtain ⟨k, e1, p, kp, e2, e3⟩ := kindOf_mem d2
    have ko : k.ok := by rw [← e3]; exact hw.ok p kp
    have kl := ment_len ko
    have hw3 := hw.few
    dsimp! [Stp.d, eq_str, d1.st, wdic_il, wdic_ix, e1, Knd.il, s_law_mentioned ko]
    rw [compL_filT (f := fun y : Str => if y ∈ s.heads then none else some (.str y)) (fun y hy => by
      by_cases e : y ∈ s.heads
      · dsimp! [any_strs, e]
      · dsimp! [any_strs, e]) (by simp [MP.sizeLine]; omega), fm_not (fun y : Str => y ∈ s.heads)]
    have h6 := fil_len (q := fun y : Str => !decide (y ∈ s.heads)) (show k.ment.length ≤ 16777216 by omega)
    have fnm : ∀ y ∈ k.ment.filter (fun y : Str => !decide (y ∈ s.heads)), Nm y := fun y hy => ment_nm ko y (List.mem_filter.mp hy).1
    have fe : (k.ment.filter (fun y : Str => !decide (y ∈ s.heads)) = []) ↔ ∀ y ∈ k.ment, y ∈ s.heads := by
      rw [List.filter_eq_nil_iff]
      simp
    generalize hG : k.ment.filter (fun y : Str => !decide (y ∈ s.heads)) = G at h6 fnm fe ⊢
    by_cases c1 : ∀ y ∈ k.ment, y ∈ s.heads
    · have g0 : G = [] := fe.mpr c1
      have k5 : s.act.length + 1 ≤ 16777216 := by omega
      subst g0
      dsimp! [eq_nn, k5, hil, hI, wdic_il]
      rw [compL_filT (f := fun p : Str × Knd => if (p.1 ∈ s.act ∨ x = p.1) then some (.str p.1) else none) (fun p hp => by
        by_cases e : p.1 ∈ s.act
        · dsimp! [wD, wdic_il, any_strs, e, hil]
        · by_cases e2 : x = p.1
          · dsimp! [wD, wdic_il, any_strs, e, e2, hil]
          · dsimp! [wD, wdic_il, any_strs, e, e2, hil]) (by simp [MP.sizeLine]; omega), fm_names ws fun y => y ∈ s.act ∨ x = y]
      have h7 := fil_len (q := fun y : Str => decide (y ∈ s.act ∨ x = y)) (xs := ws.map (·.1)) (n := 16777216) (by simp; omega)
      have e9 : aft ws s (.beg x) = some ⟨s.cols, s.rules, (ws.map (·.1)).filter fun y => decide (y ∈ s.act ∨ x = y)⟩ := by
        simp only [aft, e1, Option.bind_some, if_pos c1]
        congr 4
        funext y
        simp [eq_comm]
      rw [e9]
      generalize hz : ((ws.map (·.1)).filter fun y => decide (y ∈ s.act ∨ x = y)) = zs at h7 ⊢
      dsimp! [h7, oL, Std.law]
    · have g0 : ¬ G = [] := fun z => c1 (fe.mp z)
      dsimp! [h6, eq_nilL fnm, g0]
      simp only [aft, e1, Option.bind_some, if_neg c1, oL]
  | rem x =>
    obtain ⟨d1, d2⟩ := hd
    have hw3 := hw.few
    dsimp! [Stp.d, eq_str, d1.st]
    simp only [rb_assoc]
    refine for_acc (fun pre γ => ∃ v, γ = [some pd, some (.lst [.lst (s.cols.map cD), .lst (s.rules.map rD), .lst (s.act.map .str)]), some (.tup [.str "remove", .str x]), some (.lst (s.cols.map cD)), some (.lst (s.rules.map rD)), some (.lst (s.act.map .str)), some (.lst (s.heads.map .str)), some (.lst (s.forced.map .str)), some (wdic ws), some (.str "remove"), some (.str x), none, none, none, some (.lst ((pre.flatMap fun p : Str × Tst => p.2.cols).map .str)), v, none, none, none]) ⟨none, by simp⟩ ?_ ?_
    · rintro pre p post he γ ⟨v, rfl⟩
      have hm : p ∈ s.rules := by rw [he]; simp
      have ht := (h.rn p hm).2
      have ci : (calls P (n + 5)).fn "_law_columns_in" [p.2.d] b c = .ok (.lst (p.2.cols.map .str)) c := s_law_columns_in ht.ok 3 (n + 2) b c ht.deep (by have := ht.plain; omega)
      have l1 := flat_len (f := fun p : Str × Tst => p.2.cols) (m := 2) (xs := pre) fun q hq => Nat.le_trans (Tst.lenc _) (h.rn q (by rw [he]; simp [hq])).2.plain
      have l2 : pre.length ≤ 4 := by rw [he] at hr; simp at hr; omega
      have l3 := Nat.le_trans (Tst.lenc p.2) ht.plain
      have e1 : ((pre ++ [p]).flatMap fun p : Str × Tst => p.2.cols).map D.str = (pre.flatMap fun p : Str × Tst => p.2.cols).map .str ++ p.2.cols.map .str := by simp
      rw [e1]
      generalize hG : (pre.flatMap fun p : Str × Tst => p.2.cols) = G at l1
      have l4 : G.length + p.2.cols.length ≤ 16777216 := by omega
      dsimp! [rD, Tst.il, ci, l4, goes_nx]
    rintro γ ⟨v, rfl⟩
    have u1 := (used_len hw h).1
    have hus : used ws s = (s.rules.flatMap fun p : Str × Tst => p.2.cols) ++ ws.flatMap fun p => if p.1 ∈ s.act then p.2.ment else [] := rfl
    generalize hU : (s.rules.flatMap fun p : Str × Tst => p.2.cols) = us at u1 hus ⊢
    dsimp! []
    simp only [rb_assoc]
    refine for_acc (fun pre γ => ∃ v, γ = [some pd, some (.lst [.lst (s.cols.map cD), .lst (s.rules.map rD), .lst (s.act.map .str)]), some (.tup [.str "remove", .str x]), some (.lst (s.cols.map cD)), some (.lst (s.rules.map rD)), some (.lst (s.act.map .str)), some (.lst (s.heads.map .str)), some (.lst (s.forced.map .str)), some (wdic ws), some (.str "remove"), some (.str x), none, none, none, some (.lst ((us ++ pre.flatMap fun y : Str => ((kindOf ws y).map Knd.ment).getD []).map .str)), v, none, none, none]) ⟨v, by simp⟩ ?_ ?_
    · rintro pre y post he γ ⟨v, rfl⟩
      have hm : y ∈ s.act := by rw [he]; simp
      obtain ⟨k, e1, p, kp, e2, e3⟩ := kindOf_mem (haw y hm)
      have ko : k.ok := by rw [← e3]; exact hw.ok p kp
      have l1 := flat_len (f := fun y : Str => ((kindOf ws y).map Knd.ment).getD []) (m := 8) (xs := pre) fun q hq => by
        obtain ⟨k', e1', p', kp', e2', e3'⟩ := kindOf_mem (haw q (by rw [he]; simp [hq]))
        rw [e1']
        exact ment_len (by rw [← e3']; exact hw.ok p' kp')
      have l2 : pre.length ≤ 4 := by rw [he] at ha; simp at ha; omega
      have l3 := ment_len ko
      have e4 : (us ++ (pre ++ [y]).flatMap fun y : Str => ((kindOf ws y).map Knd.ment).getD []).map D.str = (us ++ pre.flatMap fun y : Str => ((kindOf ws y).map Knd.ment).getD []).map .str ++ k.ment.map .str := by simp [e1]
      rw [e4]
      have l5 : (us ++ pre.flatMap fun y : Str => ((kindOf ws y).map Knd.ment).getD []).length ≤ 40 := by rw [List.length_append]; omega
      generalize hG : (us ++ pre.flatMap fun y : Str => ((kindOf ws y).map Knd.ment).getD []) = G at l5 ⊢
      have l4 : G.length + k.ment.length ≤ 16777216 := by omega
      dsimp! [wdic_il, wdic_ix, e1, Knd.il, s_law_mentioned ko, l4, goes_nx]
    rintro γ ⟨w, rfl⟩
    have hmem : x ∈ (us ++ s.act.flatMap fun y : Str => ((kindOf ws y).map Knd.ment).getD []) ↔ x ∈ used ws s := by
      rw [hus, List.mem_append, List.mem_append]
      refine or_congr_right ?_
      rw [List.mem_flatMap, List.mem_flatMap]
      constructor
      · rintro ⟨y, hy, hx⟩
        obtain ⟨k, e1, p, kp, e2, e3⟩ := kindOf_mem (haw y hy)
        rw [e1] at hx
        refine ⟨p, kp, ?_⟩
        rw [if_pos (by rw [e2]; exact hy), e3]
        exact hx
      · rintro ⟨p, hp, hx⟩
        by_cases e : p.1 ∈ s.act
        · rw [if_pos e] at hx
          refine ⟨p.1, e, ?_⟩
          have : kindOf ws p.1 = some p.2 := by
            obtain ⟨k, e1, q, kq, e2, e3⟩ := kindOf_mem (List.mem_map.mpr ⟨p, hp, rfl⟩ : p.1 ∈ ws.map (·.1))
            have : q = p := by
              have nd := hw.nd
              exact map_inj nd kq hp e2
            rw [e1, ← e3, this]
          rw [this]
          exact hx
        · rw [if_neg e] at hx; cases hx
    generalize hV : (us ++ s.act.flatMap fun y : Str => ((kindOf ws y).map Knd.ment).getD []) = vs at hmem ⊢
    dsimp! []
    rw [compL_filT (f := fun p : Str × Option Int => if p.1 = x then none else some (cD p)) (fun p hp => by
      have q := (h.nm p hp).st
      by_cases e : p.1 = x
      · subst e
        dsimp! [cD, eq_str, q]
      · dsimp! [cD, eq_str, q, d1.st, e]) (by simp [MP.sizeLine]; omega), fm_not (fun p : Str × Option Int => p.1 = x)]
    have h9 := fil_len (q := fun p : Str × Option Int => !decide (p.1 = x)) (show s.cols.length ≤ 16777216 by omega)
    have hnm : ∀ p ∈ s.cols.filter (fun p : Str × Option Int => !decide (p.1 = x)), Nm p.1 := fun p hp => h.nm p (List.mem_filter.mp hp).1
    have hone : s.cols.filter (fun p : Str × Option Int => !decide (p.1 = x)) = [] ↔ s.cols.length = 1 := one_left h.nd d2
    have e9 : aft ws s (.rem x) = if x ∉ used ws s ∧ s.cols.length ≠ 1 then some ⟨s.cols.filter fun p => !decide (p.1 = x), s.rules, s.act⟩ else none := by
      simp [aft]
    rw [e9]
    generalize hG : s.cols.filter (fun p : Str × Option Int => !decide (p.1 = x)) = G at h9 hnm hone ⊢
    have en := eq_nilM (e := cD) (xs := G) (k := 3) (lay_lst (layL_map fun p hp => lay_tup (layL_cons (lay_str (hnm p hp).st) (layL_cons (vD_lay _) layL_nil)))) (by omega)
    by_cases c1 : x ∈ vs
    · have c2 : x ∈ used ws s := hmem.mp c1
      rw [if_neg (fun z => z.1 c2)]
      dsimp! [h9, any_strs, c1, oL]
    · have c2 : ¬ x ∈ used ws s := fun z => c1 (hmem.mpr z)
      by_cases c3 : s.cols.length = 1
      · have g0 : G = [] := hone.mpr c3
        rw [if_neg (fun z => z.2 c3)]
        dsimp! [h9, any_strs, c1, oL, g0, eq_nn]
      · have g0 : ¬ G = [] := fun z => c3 (hone.mp z)
        rw [if_pos ⟨c2, c3⟩]
        dsimp! [h9, any_strs, c1, oL, en, g0, Std.law]
end Hk01
end
section
set_option maxRecDepth 100000
set_option maxHeartbeats 1000000
namespace Hk01
open PySem MP
def Aw (ws : List (Str × Knd)) (s : Std) : Prop := ∀ x ∈ s.act, x ∈ ws.map (·.1)
theorem aft_ok {ws : List (Str × Knd)} (hw : WOk ws) {s s' : Std} (h : SOk s) (ha : Aw ws s) {st : Stp} (hd : Drawn ws s st) (e : aft ws s st = some s') : SOk s' ∧ Aw ws s' := by
  cases st with
  | add x t =>
    simp only [aft] at e
    split at e
    · cases e
    · rename_i q
      cases e
      refine ⟨⟨h.nm, h.nd, h.one, h.few, fun p hp => ?_, ?_, h.an, h.al⟩, ha⟩
      · rcases List.mem_append.mp hp with z | z
        · exact h.rn p z
        · rw [List.mem_singleton.mp z]; exact ⟨hd.1, hd.2.1⟩
      · have := h.rl
        have : ¬ s.rules.length = 4 := fun z => q (.inr z)
        simp; omega
  | look x =>
    simp only [aft] at e
    split at e
    · cases e; exact ⟨h, ha⟩
    · cases e
  | drop x =>
    simp only [aft] at e
    split at e
    · cases e
      exact ⟨⟨h.nm, h.nd, h.one, h.few, fun p hp => h.rn p (List.mem_filter.mp hp).1, fil_len h.rl, h.an, h.al⟩, ha⟩
    · cases e
  | beg x =>
    simp only [aft] at e
    obtain ⟨k, _, e⟩ := Option.bind_eq_some_iff.mp e
    split at e
    · cases e
      refine ⟨⟨h.nm, h.nd, h.one, h.few, h.rn, h.rl, fun y hy => ?_, ?_⟩, fun y hy => (List.mem_filter.mp hy).1⟩
      · obtain ⟨p, hp, rfl⟩ := List.mem_map.mp (List.mem_filter.mp hy).1
        exact hw.nm p hp
      · exact fil_len (by have := hw.few; simp; omega)
    · cases e
  | fin x =>
    simp only [aft] at e
    cases e
    exact ⟨⟨h.nm, h.nd, h.one, h.few, h.rn, h.rl, fun y hy => h.an y (List.mem_filter.mp hy).1, fil_len h.al⟩, fun y hy => ha y (List.mem_filter.mp hy).1⟩
  | dfl x v =>
    simp only [aft] at e
    cases e
    refine ⟨⟨fun p hp => ?_, ?_, by simpa using h.one, by simpa using h.few, h.rn, h.rl, h.an, h.al⟩, ha⟩
    · obtain ⟨q, hq, rfl⟩ := List.mem_map.mp hp; exact h.nm q hq
    · have := h.nd
      rw [List.map_map]
      exact this
  | col x v =>
    simp only [aft] at e
    split at e
    · rename_i q
      cases e
      refine ⟨⟨fun p hp => ?_, ?_, by simp, by simp; omega, h.rn, h.rl, h.an, h.al⟩, ha⟩
      · rcases List.mem_append.mp hp with z | z
        · exact h.nm p z
        · rw [List.mem_singleton.mp z]; exact hd.1
      · rw [List.map_append, List.nodup_append]
        refine ⟨h.nd, by simp, fun a hA b hB z => q.1 ?_⟩
        have : b = x := by simpa using hB
        rw [← this, ← z]; exact hA
    · cases e
  | rem x =>
    simp only [aft] at e
    split at e
    · rename_i q
      cases e
      have ne : ¬ s.cols.filter (fun p : Str × Option Int => !decide (p.1 = x)) = [] := fun z => q.2 ((one_left h.nd hd.2).mp z)
      have e2 : (s.cols.filter fun p : Str × Option Int => decide (p.1 ≠ x)) = s.cols.filter (fun p : Str × Option Int => !decide (p.1 = x)) := by congr 1; funext p; simp
      refine ⟨⟨fun p hp => h.nm p (List.mem_filter.mp hp).1, ?_, ?_, fil_len h.few, h.rn, h.rl, h.an, h.al⟩, ha⟩
      · exact (List.filter_sublist.map _).nodup h.nd
      · rw [e2]
        cases hz : s.cols.filter (fun p : Str × Option Int => !decide (p.1 = x)) with
        | nil => exact absurd hz ne
        | cons _ _ => simp
    · cases e
  | fil x v t =>
    simp only [aft] at e
    cases e
    exact ⟨h, ha⟩
/-- parts stand at pd -/
structure PAt (pd : D) (c : List Cell) (p : Prt) : Prop where
  il : isLam pd = false
  i0 : ∀ e, ixSem 0 (c ++ e) pd (.int 0) = some (tabD p)
  i1 : ∀ e, ixSem 0 (c ++ e) pd (.int 1) = some (rulD p)
  i2 : ∀ e, ixSem 0 (c ++ e) pd (.int 2) = some (wriD p)
  i3 : ∀ e, ixSem 0 (c ++ e) pd (.int 3) = some (actD p)
  i4 : ∀ e, ixSem 0 (c ++ e) pd (.int 4) = some (steD p)
theorem PAt.lst (c : List Cell) (p : Prt) : PAt (.lst (parD p)) c p := ⟨rfl, fun e => by rw [ix_lst]; exact atI_0 _ _, fun e => by rw [ix_lst]; exact atI_1 _ _ _, fun e => by rw [ix_lst]; exact atI_2 _ _ _ _, fun e => by rw [ix_lst]; exact atI_3 _ _ _ _ _, fun e => by rw [ix_lst]; exact atI_4 _ _ _ _ _ _⟩
theorem PAt.ref {c : List Cell} {p : Prt} {n : Nat} (h : c[n]? = some (.lst (parD p))) : PAt (.ref n) c p := by
  have hn := (List.getElem?_eq_some_iff.mp h).1
  have h2 : ∀ e : List Cell, (c ++ e)[n]? = some (.lst (parD p)) := fun e => by rw [List.getElem?_append_left hn]; exact h
  exact ⟨rfl, fun e => by rw [ix_at (h2 e)]; exact atI_0 _ _, fun e => by rw [ix_at (h2 e)]; exact atI_1 _ _ _, fun e => by rw [ix_at (h2 e)]; exact atI_2 _ _ _ _, fun e => by rw [ix_at (h2 e)]; exact atI_3 _ _ _ _ _, fun e => by rw [ix_at (h2 e)]; exact atI_4 _ _ _ _ _ _⟩
theorem calls_truncL {f : Str} {F : Fun} (h : P.fun? f = some F) {n : Nat} {ds : List D} {c c1 e : List Cell} {xs : List D} {j : Nat} (hm : F.mode = .trunc) (hl : ds.length = F.np)
    (hr : (evSs P (calls P n) F.body (env0 F ds) 0 c).bind fin = .ok (.ref j) (c1 ++ e)) (hc : c1.length = c.length) (hp : Pln c1) (hj : c.length ≤ j) (hx : cellAt (0 + c.length) e j = some (.lst xs)) (hd : closedL (0 + c.length) xs = true) : (calls P (n + 1)).fn f ds 0 c = .ok (.lst xs) c1 := by
  rw [calls_fn h]
  unfold callBy
  rw [hm]
  have hr2 : MP.run P (calls P n) F ds 0 c = .ok (.ref j) (c1 ++ e) := by
    unfold MP.run
    rw [if_pos hl]
    exact hr
  dsimp only
  rw [hr2]
  dsimp only
  have t1 : (c1 ++ e).take c.length = c1 := by rw [← hc, List.take_left']; rfl
  have t0 : (c1 ++ e).drop c.length = e := by rw [← hc, List.drop_left']; rfl
  have t2 : (c1.all (Cell.closed (0 + c.length)) && decide (c.length ≤ (c1 ++ e).length)) = true := by
    rw [Bool.and_eq_true]
    exact ⟨List.all_eq_true.mpr fun x hx => hp x hx _, decide_eq_true (by rw [List.length_append]; omega)⟩
  have t3 : freeze (0 + c.length) e (.ref j) = some (.lst xs) := by
    unfold freeze
    dsimp only
    rw [if_neg (by omega), hx]
    dsimp only
    rw [if_pos hd]
  rw [t1, if_pos t2, t0, t3]
theorem law_closed {s : Std} (h : SOk s) (b : Nat) : MP.closed b s.law = true := by
  have l1 := lay_closed b (lay_cols h.nm (k := 0))
  have l2 := lay_closed b (lay_rules h.rn (k := 0))
  have l3 := lay_closed b (lay_act h.an (k := 0))
  unfold MP.closed at l1 l2 l3
  unfold Std.law MP.closed MP.closedL MP.closedL MP.closedL MP.closedL MP.closed
  rw [l1, l2, l3]
  rfl
theorem law_closedL {ss : List Std} (h : ∀ s ∈ ss, SOk s) (b : Nat) : MP.closedL b (ss.map Std.law) = true := by
  induction ss with
  | nil => rfl
  | cons s ss ih =>
    rw [List.map_cons]
    unfold MP.closedL
    rw [law_closed (h s (List.mem_cons_self ..)), ih fun t ht => h t (List.mem_cons_of_mem _ ht)]
    rfl
theorem ix_e0 {c : List Cell} {L : Nat} (hL : c.length = L) (xs : List D) (i : Int) : ixSem 0 (c ++ [.lst xs]) (.ref L) (.int i) = L2.atI xs i := by
  refine ix_at ?_ i
  rw [List.getElem?_append_right (by omega), hL, Nat.sub_self]
  rfl
theorem lstands_loop {p : Prt} (hw : WOk p.ws) {pd : D} {c : List Cell} (hP : PAt pd c p) {n L : Nat} (hL : c.length = L) : ∀ {s : Std} {sts : List Stp} {ss : List Std}, Chain p.ws s sts ss → Aw p.ws s → ∀ (pre : List Std) (v : Option D), pre.length + ss.length ≤ 100 →
    ∃ v', forL (fun x γ b c => match asgT (.nm 2) x γ with
      | some γ => evSs P (calls P (n + 6)) (.cons (.expr (.app (.var 1) (.call "_law_after" (.cons (.var 0) (.cons (.idx (.var 1) (.neg (.con (.int 1)))) (.cons (.var 2) .nil))) []))) .nil) γ b c
      | none => .bad) 0 (sts.map Stp.d) [some pd, some (.ref L), v, none] (c ++ [.lst ((pre ++ [s]).map Std.law)]) = .ok (.nx [some pd, some (.ref L), v', none]) (c ++ [.lst ((pre ++ ss).map Std.law)])
  | _, _, _, .nil s h, _, pre, v, _ => ⟨v, by dsimp! []⟩
  | _, _, _, .cons (s := s) (s' := s') (st := st) (sts := sts) (ss := ss) h hd ha r, aw, pre, v, hl => by
    have i1 : ∀ e : List Cell, (calls P (n + 6)).fn "_law_after" [pd, s.law, st.d] 0 (c ++ e) = .ok s'.law (c ++ e) := fun e => by
      have := s_law_after hw h aw hd hP.il (hP.i2 e) n
      rw [ha] at this
      exact this
    obtain ⟨v', ih⟩ := lstands_loop hw hP (n := n) hL r (aft_ok hw h aw hd ha).2 (pre ++ [s]) (some st.d) (by simp at hl ⊢; omega)
    refine ⟨v', ?_⟩
    have e1 : ((pre ++ [s] ++ [s']).map Std.law) = (pre ++ [s]).map Std.law ++ [s'.law] := by simp
    rw [e1] at ih
    have e2 : (pre ++ s :: ss).map Std.law = (pre ++ [s] ++ ss).map Std.law := by simp
    rw [e2, ← ih]
    generalize hLs : (pre ++ [s]).map Std.law = LS
    have hL2 : LS = pre.map Std.law ++ [s.law] := by rw [← hLs]; simp
    have hl3 : LS.length < 16777216 := by rw [hL2]; simp at hl ⊢; omega
    have h6 : L2.atI LS (-1) = some s.law := by rw [hL2]; exact at_last _ _
    rw [List.map_cons, forL]
    dsimp! [hP.il, ix_e0 hL, h6, law_il, Stp.il, i1, lst_cell (cell_e0 hL _ _), cell_e0 hL, set_e0 hL, hl3]
theorem s_law_stands {p : Prt} (h : POk p) {pd : D} {c : List Cell} (hP : PAt pd c p) (hp : Pln c) {ss : List Std} (hc : Chain p.ws p.beg p.steps ss) (n : Nat) : (calls P (n + 7)).fn "_law_stands" [pd] 0 c = .ok (.lst (ss.map Std.law)) c := by
  have h3 := h.w.few
  have hc4 := h.c4
  have hr3 := h.r3
  have k1 : p.cols.length ≤ 16777216 := by omega
  have aw : Aw p.ws p.beg := fun x hx => (List.mem_filter.mp hx).1
  obtain ⟨v', lp⟩ := lstands_loop h.w hP (n := n) rfl hc aw [] none (by rw [hc.len]; have := h.s10; simp; omega)
  refine calls_truncL (e := [.lst (ss.map Std.law)]) (j := c.length) f__law_stands rfl rfl ?_ rfl hp (Nat.le_refl _) (by rw [Nat.zero_add]; exact cell_last _ _) (law_closedL hc.ok _)
  have q0 := hP.i0 []
  have q1 := hP.i1 []
  have q2 := hP.i2 []
  have q3 := hP.i3 []
  have q4 := hP.i4
  rw [List.append_nil] at q0 q1 q2 q3
  unfold tabD rulD wriD actD steD at *
  dsimp! [c__law_stands, hP.il, q0, q1, q2]
  rw [compL_filT (f := fun q : Str × Knd => if q.1 ∈ p.act then some (.str q.1) else none) (fun q hq => by
    by_cases e : q.1 ∈ p.act
    · dsimp! [wD, any_strs, e, hP.il, q3]
    · dsimp! [wD, any_strs, e, hP.il, q3]) (by simp [MP.sizeLine]; omega), fm_names p.ws fun y => y ∈ p.act]
  have h7 := fil_len (q := fun y : Str => decide (y ∈ p.act)) (xs := p.ws.map (·.1)) (n := 16777216) (by simp; omega)
  have e1 : p.beg = ⟨p.cols, p.rules, (p.ws.map (·.1)).filter fun y => decide (y ∈ p.act)⟩ := rfl
  simp only [List.nil_append, List.map_cons, List.map_nil] at lp
  rw [e1] at lp
  unfold Std.law at lp
  generalize hz : ((p.ws.map (·.1)).filter fun y => decide (y ∈ p.act)) = zs at h7 lp ⊢
  dsimp! [h7, nl_t, hP.il, q4]
  simp only [rb_assoc]
  refine (bind_left _ lp).trans ?_
  dsimp! [Std.law]
end Hk01
end
section
set_option maxRecDepth 100000
set_option maxHeartbeats 1000000
namespace Hk01
open PySem MP
inductive Al2 {α β : Type} (Φ : α → β → Prop) : List α → List β → Prop
  | nil : Al2 Φ [] []
  | cons {x : α} {y : β} {xs : List α} {ys : List β} : Φ x y → Al2 Φ xs ys → Al2 Φ (x :: xs) (y :: ys)
/-- a comprehension that draws -/
theorem comp_dr {α β γ : Type} {step : D → Nat → List Cell → Res (Option D)} {m : Nat} {e : α → D} {g : β → D} {Φ : α → β → Prop} {R : Res γ → Prop} {k : List D → List Cell → Res γ} : ∀ {xs : List α} {c : List Cell} {acc : List D}, BagAt c m →
    (∀ x ∈ xs, ∀ c', BagAt c' m → ∃ y c1, step (e x) 0 c' = .ok (some (g y)) c1 ∧ Like c' m c1 ∧ Φ x y) → acc.length + xs.length ≤ MP.sizeLine →
    (∀ ys c1, Like c m c1 → Al2 Φ xs ys → R (k (acc ++ ys.map g) c1)) → R ((compL step 0 (xs.map e) acc c).bind k)
  | [], c, acc, hb, hs, hl, hk => by
    have := hk [] c (.refl hb) .nil
    simpa [compL] using this
  | x :: xs, c, acc, hb, hs, hl, hk => by
    obtain ⟨y, c1, e1, l1, p1⟩ := hs x (List.mem_cons_self ..) c hb
    have hl2 : acc.length + (xs.length + 1) ≤ MP.sizeLine := hl
    rw [List.map_cons, compL, e1, Res.bind_ok]
    dsimp only
    rw [if_pos (by omega)]
    refine comp_dr (Φ := Φ) (g := g) l1.bag (fun z hz c' hb' => hs z (List.mem_cons_of_mem _ hz) c' hb') (by rw [List.length_append]; simp; omega) fun ys c2 l2 a2 => ?_
    have := hk (y :: ys) c2 (l1.trans l2) (.cons p1 a2)
    simpa using this
theorem Al2.len {α β : Type} {Φ : α → β → Prop} : ∀ {xs : List α} {ys : List β}, Al2 Φ xs ys → ys.length = xs.length
  | _, _, .nil => rfl
  | _, _, .cons _ r => by simp [r.len]
theorem Al2.fst {Φ : Str → Str × Option Int → Prop} (h : ∀ x y, Φ x y → y.1 = x) : ∀ {xs : List Str} {ys : List (Str × Option Int)}, Al2 Φ xs ys → ys.map (·.1) = xs
  | _, _, .nil => rfl
  | _, _, .cons p r => by rw [List.map_cons, h _ _ p, Al2.fst h r]
theorem Al2.all {α β : Type} {Φ : α → β → Prop} {Ψ : β → Prop} (h : ∀ x y, Φ x y → Ψ y) : ∀ {xs : List α} {ys : List β}, Al2 Φ xs ys → ∀ y ∈ ys, Ψ y
  | _, _, .nil, y, hy => by cases hy
  | _, _, .cons p r, y, hy => by
    rcases List.mem_cons.mp hy with z | z
    · rw [z]; exact h _ _ p
    · exact Al2.all h r y z
theorem nm_rx : Nm "rx" := ⟨fun n b c => by rw [calls_keep f_is_name rfl rfl]; kernel_rfl, by decide +kernel, by decide +kernel⟩
theorem nm_ry : Nm "ry" := ⟨fun n b c => by rw [calls_keep f_is_name rfl rfl]; kernel_rfl, by decide +kernel, by decide +kernel⟩
theorem nm_rz : Nm "rz" := ⟨fun n b c => by rw [calls_keep f_is_name rfl rfl]; kernel_rfl, by decide +kernel, by decide +kernel⟩
theorem nm_wp : Nm "wp" := ⟨fun n b c => by rw [calls_keep f_is_name rfl rfl]; kernel_rfl, by decide +kernel, by decide +kernel⟩
theorem nm_wq : Nm "wq" := ⟨fun n b c => by rw [calls_keep f_is_name rfl rfl]; kernel_rfl, by decide +kernel, by decide +kernel⟩
theorem nm_wr : Nm "wr" := ⟨fun n b c => by rw [calls_keep f_is_name rfl rfl]; kernel_rfl, by decide +kernel, by decide +kernel⟩
theorem nm_up : Nm "up" := ⟨fun n b c => by rw [calls_keep f_is_name rfl rfl]; kernel_rfl, by decide +kernel, by decide +kernel⟩
theorem nm_uq : Nm "uq" := ⟨fun n b c => by rw [calls_keep f_is_name rfl rfl]; kernel_rfl, by decide +kernel, by decide +kernel⟩
theorem nm_ur : Nm "ur" := ⟨fun n b c => by rw [calls_keep f_is_name rfl rfl]; kernel_rfl, by decide +kernel, by decide +kernel⟩
theorem nm_pp : Nm "putp" := ⟨fun n b c => by rw [calls_keep f_is_name rfl rfl]; kernel_rfl, by decide +kernel, by decide +kernel⟩
theorem nm_pq : Nm "putq" := ⟨fun n b c => by rw [calls_keep f_is_name rfl rfl]; kernel_rfl, by decide +kernel, by decide +kernel⟩
theorem nm_pr : Nm "putr" := ⟨fun n b c => by rw [calls_keep f_is_name rfl rfl]; kernel_rfl, by decide +kernel, by decide +kernel⟩
def rn3 : List Str := ["rx", "ry", "rz"]
/-- "r" and a letter -/
theorem rname {k : Nat} (h : k < 3) (b : Nat) (c : List Cell) : ∃ x y, rn3[k]? = some x ∧ ixSem b c (.str "xyz") (.int k) = some (.str y) ∧ binSem .Add b c (.str "r") (.str y) = some (.str x) ∧ Nm x := by
  have : k = 0 ∨ k = 1 ∨ k = 2 := by omega
  rcases this with rfl | rfl | rfl
  · exact ⟨"rx", "x", rfl, by kernel_rfl, by kernel_rfl, nm_rx⟩
  · exact ⟨"ry", "y", rfl, by kernel_rfl, by kernel_rfl, nm_ry⟩
  · exact ⟨"rz", "z", rfl, by kernel_rfl, by kernel_rfl, nm_rz⟩
def wnm (k : Nat) : List Str := if k = 0 then ["wp", "up", "putp"] else if k = 1 then ["wq", "uq", "putq"] else ["wr", "ur", "putr"]
theorem wname {k : Nat} (h : k < 3) {w : Str} (hw : w ∈ (["w", "u", "put"] : List Str)) (b : Nat) (c : List Cell) : ∃ x y, x ∈ wnm k ∧ ixSem b c (.str "pqr") (.int k) = some (.str y) ∧ binSem .Add b c (.str w) (.str y) = some (.str x) ∧ Nm x := by
  have : k = 0 ∨ k = 1 ∨ k = 2 := by omega
  simp only [List.mem_cons, List.not_mem_nil, or_false] at hw
  rcases this with rfl | rfl | rfl <;> rcases hw with rfl | rfl | rfl
  · exact ⟨"wp", "p", by simp [wnm], by kernel_rfl, by kernel_rfl, nm_wp⟩
  · exact ⟨"up", "p", by simp [wnm], by kernel_rfl, by kernel_rfl, nm_up⟩
  · exact ⟨"putp", "p", by simp [wnm], by kernel_rfl, by kernel_rfl, nm_pp⟩
  · exact ⟨"wq", "q", by simp [wnm], by kernel_rfl, by kernel_rfl, nm_wq⟩
  · exact ⟨"uq", "q", by simp [wnm], by kernel_rfl, by kernel_rfl, nm_uq⟩
  · exact ⟨"putq", "q", by simp [wnm], by kernel_rfl, by kernel_rfl, nm_pq⟩
  · exact ⟨"wr", "r", by simp [wnm], by kernel_rfl, by kernel_rfl, nm_wr⟩
  · exact ⟨"ur", "r", by simp [wnm], by kernel_rfl, by kernel_rfl, nm_ur⟩
  · exact ⟨"putr", "r", by simp [wnm], by kernel_rfl, by kernel_rfl, nm_pr⟩
theorem wnm_ne {i j : Nat} (hi : i < 3) (hj : j < 3) (hij : i ≠ j) {x : Str} (h1 : x ∈ wnm i) (h2 : x ∈ wnm j) : False := by
  have key : ∀ i j : Nat, i < 3 → j < 3 → i ≠ j → ∀ x ∈ wnm i, x ∉ wnm j := by
    intro i j hi hj
    have a : i = 0 ∨ i = 1 ∨ i = 2 := by omega
    have b : j = 0 ∨ j = 1 ∨ j = 2 := by omega
    rcases a with rfl | rfl | rfl <;> rcases b with rfl | rfl | rfl <;> decide +kernel
  exact key i j hi hj hij x h1 h2
theorem rngD_map : ∀ (n : Nat) (a : Int), rngD a n = (List.range n).map fun i : Nat => D.int (a + i)
  | 0, a => rfl
  | n + 1, a => by
    rw [rngD, rngD_map n (a + 1), List.range_succ_eq_map, List.map_cons, List.map_map]
    congr 1
    · simp
    · apply List.map_congr_left
      intro i _
      show D.int (a + 1 + i) = D.int (a + ((i + 1 : Nat) : Int))
      congr 1
      omega
theorem rng0 (n : Nat) : rngD 0 n = (List.range n).map fun i : Nat => D.int (i : Int) := by
  rw [rngD_map]
  apply List.map_congr_left
  intro i _
  simp
theorem Al2.mem {α β : Type} {Φ : α → β → Prop} : ∀ {xs : List α} {ys : List β}, Al2 Φ xs ys → ∀ y ∈ ys, ∃ x ∈ xs, Φ x y
  | _, _, .nil, y, hy => by cases hy
  | _, _, .cons p r, y, hy => by
    rcases List.mem_cons.mp hy with z | z
    · rw [z]; exact ⟨_, List.mem_cons_self .., p⟩
    · obtain ⟨x, hx, h⟩ := r.mem y z
      exact ⟨x, List.mem_cons_of_mem _ hx, h⟩
theorem Al2.nd {α β : Type} {Φ : α → β → Prop} {f : β → Str} (inj : ∀ x1 y1 x2 y2, Φ x1 y1 → Φ x2 y2 → f y1 = f y2 → x1 = x2) : ∀ {xs : List α} {ys : List β}, Al2 Φ xs ys → xs.Nodup → (ys.map f).Nodup
  | _, _, .nil, _ => by simp
  | _, _, .cons (x := x) (y := y) p r, h => by
    rw [List.nodup_cons] at h
    rw [List.map_cons, List.nodup_cons]
    refine ⟨fun z => ?_, r.nd inj h.2⟩
    obtain ⟨y2, hy2, e⟩ := List.mem_map.mp z
    obtain ⟨x2, hx2, p2⟩ := r.mem y2 hy2
    have : x2 = x := inj _ _ _ _ p2 p e
    exact h.1 (this ▸ hx2)
structure WInv (hs : List Str) (j : Nat) (ws : List (Str × Knd)) : Prop where
  len : ws.length = j
  nm : ∀ p ∈ ws, Nm p.1
  ok : ∀ p ∈ ws, p.2.ok
  wm : ∀ p ∈ ws, ∀ y ∈ p.2.ment, y ∈ hs
  at_ : ∀ p ∈ ws, ∃ i, i < j ∧ p.1 ∈ wnm i
  nd : (ws.map (·.1)).Nodup
theorem WInv.next {hs : List Str} {j : Nat} (hj : j < 3) {ws : List (Str × Knd)} (h : WInv hs j ws) {x : Str} {k : Knd} (hx : Nm x) (hw : x ∈ wnm j) (ko : k.ok) (km : ∀ y ∈ k.ment, y ∈ hs) : WInv hs (j + 1) (ws ++ [(x, k)]) := by
  have inm : ∀ {Ψ : Str × Knd → Prop}, (∀ p ∈ ws, Ψ p) → Ψ (x, k) → ∀ p ∈ ws ++ [(x, k)], Ψ p := fun h1 h2 p hp => by
    rcases List.mem_append.mp hp with z | z
    · exact h1 p z
    · rw [List.mem_singleton.mp z]; exact h2
  refine ⟨by simp [h.len], inm h.nm hx, inm h.ok ko, inm h.wm km, inm (fun p hp => ?_) ⟨j, by omega, hw⟩, ?_⟩
  · obtain ⟨i, h1, h2⟩ := h.at_ p hp
    exact ⟨i, by omega, h2⟩
  · rw [List.map_append, List.nodup_append]
    refine ⟨h.nd, by simp, fun a ha b hb z => ?_⟩
    obtain ⟨p, hp, rfl⟩ := List.mem_map.mp ha
    obtain ⟨i, h1, h2⟩ := h.at_ p hp
    have : b = x := by simpa using hb
    rw [this] at z
    exact wnm_ne (by omega) hj (by omega) (z ▸ h2) hw
def wbody : Ss := (.cons (.expr (.app (.var 6) (.tup (.cons (.bin .Add (.call "_law_one" (.cons (.var 0) (.cons (.lst (.cons (.con (.str "w")) (.cons (.con (.str "u")) (.cons (.con (.str "put")) .nil))) false) .nil)) []) (.idx (.con (.str "pqr")) (.var 7))) (.cons (.call "_law_kind" (.cons (.var 0) (.cons (.var 3) .nil)) []) .nil)))))
 .nil)
theorem ws_closed {ws : List (Str × Knd)} (nm : ∀ p ∈ ws, Nm p.1) (ok : ∀ p ∈ ws, p.2.ok) (b : Nat) : Cell.closed b (.lst (ws.map wD)) = true := by
  have l : layL 5 (ws.map wD) = true := layL_map fun p hp => lay_tup (layL_cons (lay_str (nm p hp).st) (layL_cons (Knd.lay (ok p hp)) layL_nil))
  exact layL_closed b l
theorem Pln.app {c : List Cell} (h : Pln c) {x : Cell} (hx : ∀ b, Cell.closed b x = true) : Pln (c ++ [x]) := fun y hy b => by
  rcases List.mem_append.mp hy with z | z
  · exact h y z b
  · rw [List.mem_singleton.mp z]; exact hx b
theorem w_loop {hs : List Str} (hn : ∀ x ∈ hs, Nm x) (hd : hs.Nodup) (h1 : 1 ≤ hs.length) (h4 : hs.length ≤ 4) {n L m : Nat} {g1 g2 g4 g5 : Option D} : ∀ (r j : Nat) {c : List Cell} {ws : List (Str × Knd)} (v0 : Option D), j + r ≤ 3 → BagAt c m → Pln c → c.length = L → WInv hs j ws →
    ∃ c1 ws' v, forL (fun x γ b c => match asgT (.nm 7) x γ with
      | some γ => evSs P (calls P (n + 8)) wbody γ b c
      | none => .bad) 0 (rngD (j : Int) r) [some (.ref m), g1, g2, some (.lst (hs.map .str)), g4, g5, some (.ref L), v0, none, none, none, none, none] (c ++ [.lst (ws.map wD)]) = .ok (.nx [some (.ref m), g1, g2, some (.lst (hs.map .str)), g4, g5, some (.ref L), v, none, none, none, none, none]) (c1 ++ [.lst (ws'.map wD)]) ∧ Like c m c1 ∧ WInv hs (j + r) ws'
  | 0, j, c, ws, v0, hj, hb, hp, hL, hi => ⟨c, ws, v0, rfl, .refl hb, hi⟩
  | r + 1, j, c, ws, v0, hj, hb, hp, hL, hi => by
    have pl := hp.app (ws_closed hi.nm hi.ok)
    obtain ⟨d1, c1, e1, l1, h1'⟩ := Dr.app hb (s_one (xs := [.str "w", .str "u", .str "put"]) (by simp) (by simp) (hb.app [.lst (ws.map wD)]) (n + 6))
    obtain ⟨w, hw, rfl⟩ : ∃ w ∈ (["w", "u", "put"] : List Str), d1 = .str w := by
      simp only [List.mem_cons, List.not_mem_nil, or_false] at h1'
      rcases h1' with rfl | rfl | rfl <;> exact ⟨_, by simp, rfl⟩
    obtain ⟨x, y, x1, x2, x3, x4⟩ := wname (k := j) (by omega) hw 0 (c1 ++ [.lst (ws.map wD)])
    obtain ⟨d2, c2, e2, l2, k, rfl, ko, km⟩ := Dr.app l1.bag (s_kind hn hd h1 h4 (l1.bag.app [.lst (ws.map wD)]) ((hp.like l1).app (ws_closed hi.nm hi.ok)) n)
    have l02 := l1.trans l2
    have L2 : c2.length = L := by rw [l02.len, hL]
    have L1 : c1.length = L := by rw [l1.len, hL]
    obtain ⟨c3, ws', v, ih, l3, i3⟩ := w_loop hn hd h1 h4 (n := n) (g1 := g1) (g2 := g2) (g4 := g4) (g5 := g5) r (j + 1) (some (.int j)) (by omega) l02.bag (hp.like l02) L2 (hi.next (by omega) x4 x1 ko km)
    refine ⟨c3, ws', v, ?_, l02.trans l3, by rw [show j + (r + 1) = j + 1 + r by omega]; exact i3⟩
    have q4 : (ws ++ [(x, k)]).map wD = ws.map wD ++ [.tup [.str x, k.d]] := by simp [wD]
    have hl := hi.len
    have q5 : (ws.map wD).length < 16777216 := by simp; omega
    have q6 : ((j + 1 : Nat) : Int) = (j : Int) + 1 := by omega
    rw [q4, q6] at ih
    rw [← ih, rngD, forL]
    generalize hW : ws.map wD = W at *
    dsimp! [wbody, lst_cell (cell_e0 hL _ _), lst_cell (cell_e0 L1 _ _), e1, x2, x3, e2, Knd.il, cell_e0 L2, set_e0 L2, q5]
end Hk01
end
section
set_option maxRecDepth 100000
set_option maxHeartbeats 1000000
namespace Hk01
open PySem MP
theorem Chain.snoc {ws : List (Str × Knd)} {s s' : Std} {st : Stp} (hd : Drawn ws s st) (ha : aft ws s st = some s') (ho : SOk s') : ∀ {s0 : Std} {sts : List Stp} {pre : List Std}, Chain ws s0 sts (pre ++ [s]) → Chain ws s0 (sts ++ [st]) (pre ++ [s] ++ [s'])
  | s0, sts, pre, h => by
    cases pre with
    | nil =>
      cases h with
      | nil s h => exact .cons h hd ha (.nil s' ho)
      | cons h d a r =>
        obtain ⟨x, hx⟩ := r.head
        cases hx
    | cons t pre =>
      generalize hz : (t :: pre) ++ [s] = zs at h
      cases h with
      | nil s1 h => simp at hz
      | cons h d a r =>
        have e : pre ++ [s] = _ := (List.cons.inj hz).2
        have e0 := (List.cons.inj hz).1
        subst e0
        subst e
        have := Chain.snoc hd ha ho r
        exact .cons h d a this
theorem Chain.aw {ws : List (Str × Knd)} (hw : WOk ws) : ∀ {s : Std} {sts : List Stp} {ss : List Std}, Chain ws s sts ss → Aw ws s → ∀ t ∈ ss, Aw ws t
  | _, _, _, .nil s h, a, t, ht => by rw [List.mem_singleton.mp ht]; exact a
  | _, _, _, .cons h d e r, a, t, ht => by
    rcases List.mem_cons.mp ht with z | z
    · rw [z]; exact a
    · exact r.aw hw (aft_ok hw h a d e).2 t z
def sbody : Ss := (.cons (.asg (.nm 10) (.call "_law_drawn_step" (.cons (.var 0) (.cons (.var 9) (.cons (.idx (.call "_law_stands" (.cons (.var 9) .nil) []) (.neg (.con (.int 1)))) .nil))) []))
 (.cons (.ife (.e (.cmp .IsNot (.call "_law_after" (.cons (.var 9) (.cons (.idx (.call "_law_stands" (.cons (.var 9) .nil) []) (.neg (.con (.int 1)))) (.cons (.var 10) .nil))) []) (.con .non)))
 (.cons (.seti (.var 9) (.con (.int 4)) (.bin .Add (.idx (.var 9) (.con (.int 4))) (.tup (.cons (.var 10) .nil))))
 .nil)
 .nil)
 .nil))
theorem par_closed {p : Prt} (h : POk p) {ss : List Std} (hc : Chain p.ws p.beg p.steps ss) (b : Nat) : Cell.closed b (.lst (parD p)) = true := layL_closed b (par_lay h hc)
theorem at_e1 {c : List Cell} {L : Nat} (hL : c.length = L) (A B : Cell) : (c ++ [A, B])[L + 1]? = some B := by
  rw [List.getElem?_append_right (by omega), hL, Nat.add_sub_cancel_left]
  rfl
theorem s_loop {n L m : Nat} {A : Cell} (hA : ∀ b, Cell.closed b A = true) {g1 g2 g3 g4 g5 g6 g8 g11 g12 : Option D} : ∀ (r : Nat) (a : Int) {c : List Cell} {p : Prt} {ss : List Std} (v0 w0 : Option D), p.steps.length + r ≤ 10 → BagAt c m → Pln c → c.length = L → POk p → Chain p.ws p.beg p.steps ss →
    ∃ c1 p' ss' v w, forL (fun x γ b c => match asgT (.nm 7) x γ with
      | some γ => evSs P (calls P (n + 8)) sbody γ b c
      | none => .bad) 0 (rngD a r) [some (.ref m), g1, g2, g3, g4, g5, g6, v0, g8, some (.ref (L + 1)), w0, g11, g12] (c ++ [A, .lst (parD p)]) = .ok (.nx [some (.ref m), g1, g2, g3, g4, g5, g6, v, g8, some (.ref (L + 1)), w, g11, g12]) (c1 ++ [A, .lst (parD p')]) ∧ Like c m c1 ∧ POk p' ∧ Chain p'.ws p'.beg p'.steps ss'
  | 0, a, c, p, ss, v0, w0, hr, hb, hp, hL, ho, hc => ⟨c, p, ss, v0, w0, rfl, .refl hb, ho, hc⟩
  | r + 1, a, c, p, ss, v0, w0, hr, hb, hp, hL, ho, hc => by
    obtain ⟨pre, s, rfl⟩ : ∃ pre s, ss = pre ++ [s] := by
      obtain ⟨q, hq⟩ := hc.head
      have : ss ≠ [] := by rw [hq]; simp
      exact ⟨ss.dropLast, ss.getLast this, (List.dropLast_concat_getLast this).symm⟩
    have hs : SOk s := hc.ok s (by simp)
    have aw0 : Aw p.ws p.beg := fun x hx => (List.mem_filter.mp hx).1
    have ha : Aw p.ws s := hc.aw ho.w aw0 s (by simp)
    have pl : ∀ {c1 : List Cell}, Like c m c1 → Pln (c1 ++ [A, .lst (parD p)]) := fun {c1} l => by
      have := ((hp.like l).app hA).app (par_closed ho hc)
      simpa using this
    have pa : ∀ {c1 : List Cell}, c1.length = L → PAt (.ref (L + 1)) (c1 ++ [A, .lst (parD p)]) p := fun {c1} h => PAt.ref (at_e1 h _ _)
    have st1 : ∀ {c1 : List Cell}, Like c m c1 → (calls P (n + 8)).fn "_law_stands" [.ref (L + 1)] 0 (c1 ++ [A, .lst (parD p)]) = .ok (.lst ((pre ++ [s]).map Std.law)) (c1 ++ [A, .lst (parD p)]) := fun {c1} l => s_law_stands ho (pa (by rw [l.len, hL])) (pl l) hc (n + 1)
    have hm := hb.lt
    obtain ⟨d, c1, e1, l1, st, rfl, hd⟩ := Dr.app hb (s_drawn_step ho.w hs (hb.app [A, .lst (parD p)]) (pr := L + 1) (by omega) (at_e1 hL A (.lst (parD p))) n)
    have L1 : c1.length = L := by rw [l1.len, hL]
    have af := s_law_after ho.w hs ha hd (pa L1).il (b := 0) (c := c1 ++ [A, .lst (parD p)]) (by have := (pa L1).i2 []; rw [List.append_nil] at this; exact this) (n + 2)
    have lastS : L2.atI ((pre ++ [s]).map Std.law) (-1) = some s.law := by
      have : (pre ++ [s]).map Std.law = pre.map Std.law ++ [s.law] := by simp
      rw [this]
      exact at_last _ _
    have st0 := st1 (.refl hb)
    have st2 := st1 l1
    generalize hLS : (pre ++ [s]).map Std.law = LS at st0 st2 lastS
    cases hf : aft p.ws s st with
    | none =>
      obtain ⟨c2, p', ss', v, w, ih, l2, o2, ch2⟩ := s_loop hA (n := n) (L := L) (g1 := g1) (g2 := g2) (g3 := g3) (g4 := g4) (g5 := g5) (g6 := g6) (g8 := g8) (g11 := g11) (g12 := g12) r (a + 1) (some (.int a)) (some st.d) (by omega) l1.bag (hp.like l1) L1 ho hc
      refine ⟨c2, p', ss', v, w, ?_, l1.trans l2, o2, ch2⟩
      rw [hf] at af
      rw [← ih, rngD, forL]
      generalize hG : Cell.lst (parD p) = G at *
      dsimp! [sbody, st0, lastS, law_il, e1, st2, Stp.il, af, oL]
    | some s' =>
      obtain ⟨so', aw'⟩ := aft_ok ho.w hs ha hd hf
      have ho' : POk { p with steps := p.steps ++ [st] } := { ho with s10 := by simp; omega }
      have hc' : Chain p.ws p.beg (p.steps ++ [st]) (pre ++ [s] ++ [s']) := Chain.snoc hd hf so' hc
      obtain ⟨c2, p', ss', v, w, ih, l2, o2, ch2⟩ := s_loop hA (n := n) (L := L) (g1 := g1) (g2 := g2) (g3 := g3) (g4 := g4) (g5 := g5) (g6 := g6) (g8 := g8) (g11 := g11) (g12 := g12) (p := { p with steps := p.steps ++ [st] }) r (a + 1) (some (.int a)) (some st.d) (by simp; omega) l1.bag (hp.like l1) L1 ho' hc'
      refine ⟨c2, p', ss', v, w, ?_, l1.trans l2, o2, ch2⟩
      rw [hf] at af
      rw [← ih, rngD, forL]
      have nI : isNon s'.law = false := rfl
      have i4 := (pa L1).i4 []
      rw [List.append_nil] at i4
      have pe : parD { p with steps := p.steps ++ [st] } = [tabD p, rulD p, wriD p, actD p, .tup (p.steps.map Stp.d ++ [st.d])] := by simp [parD, tabD, rulD, wriD, actD, steD]
      rw [pe]
      have q5 : p.steps.length + 1 ≤ 16777216 := by omega
      have x4 : L2.ixN 5 4 = some 4 := by decide
      have pe0 : parD p = [tabD p, rulD p, wriD p, actD p, .tup (p.steps.map Stp.d)] := rfl
      have i4' : ixSem 0 (c1 ++ [A, Cell.lst (parD p)]) (.ref (L + 1)) (.int 4) = some (.tup (p.steps.map Stp.d)) := i4
      have cl := cell_e1 L1 A (Cell.lst (parD p)) []
      have sl := set_e1 L1 A (Cell.lst (parD p)) (Cell.lst [tabD p, rulD p, wriD p, actD p, .tup (p.steps.map Stp.d ++ [st.d])]) []
      rw [pe0] at st0 st2 e1 af i4' cl sl
      rw [pe0]
      dsimp! [sbody, st0, lastS, law_il, e1, st2, Stp.il, af, oL, nI, i4', q5, cl, x4, sl]
theorem comp_drN {α β γ : Type} {step : D → Nat → List Cell → Res (Option D)} {m : Nat} {e : α → D} {g : β → D} {Φ : α → β → Prop} {R : Res γ → Prop} {k : List D → List Cell → Res γ} {xs : List α} {c : List Cell} (hb : BagAt c m)
    (hs : ∀ x ∈ xs, ∀ c', BagAt c' m → ∃ y c1, step (e x) 0 c' = .ok (some (g y)) c1 ∧ Like c' m c1 ∧ Φ x y) (hl : xs.length ≤ MP.sizeLine)
    (hk : ∀ ys c1, Like c m c1 → Al2 Φ xs ys → R (k (ys.map g) c1)) : R ((noExc (compL step 0 (xs.map e) [] c)).bind k) := by
  have ex : ∃ ys c1, compL step 0 (xs.map e) [] c = .ok (ys.map g) c1 ∧ Like c m c1 ∧ Al2 Φ xs ys := by
    have := comp_dr (γ := List D) (k := fun zs c => .ok zs c) (R := fun r => ∃ ys c1, r = .ok (ys.map g) c1 ∧ Like c m c1 ∧ Al2 Φ xs ys) (acc := []) hb hs (by simpa using hl) fun ys c1 l a => ⟨ys, c1, rfl, l, a⟩
    cases h : compL step 0 (xs.map e) [] c with
    | ok a c1 => rw [h] at this; exact this
    | exc x fs c1 => rw [h] at this; obtain ⟨_, _, z, _⟩ := this; cases z
    | bad => rw [h] at this; obtain ⟨_, _, z, _⟩ := this; cases z
  obtain ⟨ys, c1, e1, l, a⟩ := ex
  rw [e1]
  exact hk ys c1 l a
theorem compS_dr {α : Type} {step : D → Nat → List Cell → Res (Option D)} {m L : Nat} {e g : α → D} {xs : List α} (hs : ∀ x ∈ xs, ∀ c', BagAt c' m → c'.length = L → ∃ o c1, step (e x) 0 (c' ++ [.lst (xs.map e)]) = .ok o (c1 ++ [.lst (xs.map e)]) ∧ Like c' m c1 ∧ (o = none ∨ o = some (g x))) :
    ∀ (k i : Nat) {c : List Cell} {acc : List D}, i + k = xs.length → acc.length + k ≤ MP.sizeLine → BagAt c m → c.length = L → ∃ (ys : List α) (c1 : List Cell), compS step 0 L k i acc (c ++ [.lst (xs.map e)]) = .ok (acc ++ ys.map g) (c1 ++ [.lst (xs.map e)]) ∧ Like c m c1 ∧ ys.Sublist (xs.drop i)
  | 0, i, c, acc, hi, ha, hb, hL => by
    refine ⟨[], c, ?_, .refl hb, List.nil_sublist _⟩
    unfold compS listAt
    rw [cell_e0 hL]
    dsimp only
    rw [if_pos (by rw [List.length_map]; omega)]
    simp
  | k + 1, i, c, acc, hi, ha, hb, hL => by
    have hlt : i < xs.length := by omega
    obtain ⟨o, c1, e1, l1, ho⟩ := hs xs[i] (List.getElem_mem hlt) c hb hL
    have hd : xs.drop i = xs[i] :: xs.drop (i + 1) := (List.getElem_cons_drop ..).symm
    have at_ : (listAt 0 (c ++ [.lst (xs.map e)]) L).bind (·[i]?) = some (e xs[i]) := by
      unfold listAt
      rw [cell_e0 hL]
      show (xs.map e)[i]? = _
      rw [List.getElem?_map, List.getElem?_eq_getElem hlt]
      rfl
    rcases ho with rfl | rfl
    · obtain ⟨ys, c2, e2, l2, s2⟩ := compS_dr hs k (i + 1) (acc := acc) (by omega) (by omega) l1.bag (by rw [l1.len, hL])
      refine ⟨ys, c2, ?_, l1.trans l2, by rw [hd]; exact s2.cons _⟩
      rw [compS, at_]
      dsimp only
      rw [e1, Res.bind_ok]
      exact e2
    · obtain ⟨ys, c2, e2, l2, s2⟩ := compS_dr hs k (i + 1) (acc := acc ++ [g xs[i]]) (by omega) (by simp; omega) l1.bag (by rw [l1.len, hL])
      refine ⟨xs[i] :: ys, c2, ?_, l1.trans l2, by rw [hd]; exact s2.cons_cons _⟩
      rw [compS, at_]
      dsimp only
      rw [e1, Res.bind_ok]
      dsimp only
      rw [if_pos (by omega), e2]
      simp
/-- .. as a part of what is behind it -/
theorem compS_R {α γ : Type} {step : D → Nat → List Cell → Res (Option D)} {m L n : Nat} {e g : α → D} {R : Res γ → Prop} {k : List D → List Cell → Res γ} {xs : List α} {c : List Cell} (hn : n = xs.length) (hb : BagAt c m) (hL : c.length = L) (hl : xs.length ≤ MP.sizeLine)
    (hs : ∀ x ∈ xs, ∀ c', BagAt c' m → c'.length = L → ∃ o c1, step (e x) 0 (c' ++ [.lst (xs.map e)]) = .ok o (c1 ++ [.lst (xs.map e)]) ∧ Like c' m c1 ∧ (o = none ∨ o = some (g x)))
    (hk : ∀ (ys : List α) (c1 : List Cell), Like c m c1 → ys.Sublist xs → R (k (ys.map g) (c1 ++ [.lst (xs.map e)]))) : R ((noExc (compW step 0 (.sto L n) [] (c ++ [.lst (xs.map e)]))).bind k) := by
  obtain ⟨ys, c1, e1, l, s⟩ := compS_dr hs n 0 (acc := []) (by omega) (by simp; omega) hb hL
  show R ((noExc (compS step 0 L n 0 [] (c ++ [.lst (xs.map e)]))).bind k)
  rw [e1]
  exact hk ys c1 l (by simpa using s)
theorem list_e0 {c : List Cell} {L : Nat} (hL : c.length = L) (xs : List D) (r : List Cell) : listAt 0 (c ++ .lst xs :: r) L = some xs := by
  unfold listAt
  rw [cell_e0 hL]
theorem WInv.none (hs : List Str) : WInv hs 0 [] := ⟨rfl, (fun p h => by cases h), (fun p h => by cases h), (fun p h => by cases h), (fun p h => by cases h), by simp⟩
theorem bind_R {α β : Type} {R : Res β → Prop} {r r' : Res α} {k : α → List Cell → Res β} (h : r = r') (q : R (r'.bind k)) : R (r.bind k) := by rw [h]; exact q
def h4s : List Str := ["a", "b", "ab", "z"]
theorem h4_ok {k : Nat} (h : k < 4) : (∀ x ∈ h4s.take (1 + k), Nm x) ∧ (h4s.take (1 + k)).Nodup ∧ 1 ≤ (h4s.take (1 + k)).length ∧ (h4s.take (1 + k)).length ≤ 4 := by
  refine ⟨fun x hx => ?_, ?_, ?_, ?_⟩
  · have := List.mem_of_mem_take hx
    simp only [h4s, List.mem_cons, List.not_mem_nil, or_false] at this
    rcases this with rfl | rfl | rfl | rfl
    · exact nm_a
    · exact nm_b
    · exact nm_ab
    · exact nm_z
  · exact (List.take_sublist _ _).nodup (by decide +kernel)
  · rw [List.length_take]; show 1 ≤ min (1 + k) 4; omega
  · rw [List.length_take]; exact Nat.min_le_right _ _
theorem h4_cut (k : Nat) : cutD [D.str "a", D.str "b", D.str "ab", D.str "z"] none (some (1 + (k : Int))) = (h4s.take (1 + k)).map .str := by
  have : (1 + (k : Int)) = ((1 + k : Nat) : Int) := by omega
  rw [this, sl_to, List.map_take]
  rfl
theorem small_of {k : Nat} (h : k ≤ 100) : small62 (k : Int) = true := by
  unfold small62
  rw [decide_eq_true (show -(2 ^ 62 : Int) ≤ (k : Int) by omega), decide_eq_true (show (k : Int) < 2 ^ 62 by omega)]
  rfl
/-- drawn parts -/
def PD (d : D) : Prop := ∃ p ss, d = .lst (parD p) ∧ POk p ∧ Chain p.ws p.beg p.steps ss
def PR (c : List Cell) (m L : Nat) (r : Res D) : Prop := ∃ c1 A p ss, r = .ok (.ref (L + 1)) (c1 ++ [A, .lst (parD p)]) ∧ Like c m c1 ∧ POk p ∧ Chain p.ws p.beg p.steps ss
theorem PR.like {c c1 : List Cell} {m L : Nat} {r : Res D} (l : Like c m c1) (h : PR c1 m L r) : PR c m L r := by
  obtain ⟨c2, A, p, ss, e, l2, o, ch⟩ := h
  exact ⟨c2, A, p, ss, e, l.trans l2, o, ch⟩
theorem s_law_plan {c : List Cell} {m : Nat} (hb : BagAt c m) (hp : Pln c) (n : Nat) : Dr c m ((calls P (n + 9)).fn "_law_plan" [.ref m, .int 4, .int 10] 0 c) PD := by
  suffices hR : PR c m c.length ((evSs P (calls P (n + 8)) c__law_plan.body (env0 c__law_plan [.ref m, .int 4, .int 10]) 0 c).bind fin) by
    obtain ⟨c1, A, p, ss, e, l, o, ch⟩ := hR
    refine ⟨.lst (parD p), c1, calls_truncL (e := [A, .lst (parD p)]) (j := c.length + 1) f__law_plan rfl rfl e l.len (hp.like l) (by omega) ?_ (layL_closed _ (par_lay o ch)), l, p, ss, rfl, o, ch⟩
    unfold cellAt
    rw [Nat.zero_add, if_pos (by omega), Nat.add_sub_cancel_left]
    rfl
  generalize hL : c.length = L
  obtain ⟨_, c1, e1, l1, v, rfl, v0, v1⟩ := s_draw (w := 4) (by decide) (by decide) hb (n + 7)
  obtain ⟨k, rfl⟩ := Int.eq_ofNat_of_zero_le v0
  obtain ⟨hn, hd, h1, h4⟩ := h4_ok (k := k) (by omega)
  have cut := h4_cut k
  dsimp! [c__law_plan, e1, cut]
  have mt : List.take (1 + k) (List.map D.str h4s) = (h4s.take (1 + k)).map D.str := by rw [List.map_take]
  rw [mt]
  generalize hH : h4s.take (1 + k) = hs at hn hd h1 h4 ⊢
  simp only [rb_assoc]
  refine PR.like l1 ?_
  refine comp_drN (xs := hs) (e := D.str) (m := m) (g := cD) (Φ := fun x (y : Str × Option Int) => y.1 = x ∧ vOk y.2) (R := PR c1 m L) l1.bag (fun x hx c' hb' => ?_) (by simp [MP.sizeLine]; omega) fun cols c2 l2 a2 => ?_
  · obtain ⟨_, d1, a1, m1, i, rfl, i0, i3⟩ := s_integer hb' (n + 5)
    obtain ⟨u, d2, a2, m2, h2⟩ := s_one (xs := [.non, .int 0, .int 1, .int i]) (by simp) (by simp) m1.bag (n + 6)
    obtain ⟨w, rfl, wo⟩ : ∃ w, u = vD w ∧ vOk w := by
      simp only [List.mem_cons, List.not_mem_nil, or_false] at h2
      rcases h2 with rfl | rfl | rfl | rfl
      · exact ⟨none, rfl, trivial⟩
      · exact ⟨some 0, rfl, by constructor <;> decide⟩
      · exact ⟨some 1, rfl, by constructor <;> decide⟩
      · exact ⟨some i, rfl, ⟨by omega, by omega⟩⟩
    exact ⟨(x, w), d2, by dsimp! [a1, a2, vD_il, cD], m1.trans m2, rfl, wo⟩
  have cl := a2.len
  have k5 : cols.length ≤ 16777216 := by omega
  have cf : cols.map (·.1) = hs := a2.fst fun x y h => h.1
  obtain ⟨_, c3, e3, l3, r3, rfl, r30, r31⟩ := s_draw (w := 3) (by decide) (by decide) l2.bag (n + 7)
  obtain ⟨rk, rfl⟩ := Int.eq_ofNat_of_zero_le r30
  have sm := small_of (k := rk) (by omega)
  dsimp! [k5, e3, sm]
  rw [rng0]
  simp only [rb_assoc]
  refine PR.like (l2.trans l3) ?_
  refine comp_drN (xs := List.range rk) (e := fun i : Nat => D.int (i : Int)) (m := m) (g := rD) (Φ := fun (i : Nat) (y : Str × Tst) => rn3[i]? = some y.1 ∧ Nm y.1 ∧ TOk y.2 ∧ ∀ z ∈ y.2.cols, z ∈ hs) (R := PR c3 m L) l3.bag (fun i hi c' hb' => ?_) (by simp [MP.sizeLine]; omega) fun rules c4 l4 a4 => ?_
  · have hi3 : i < 3 := by have := List.mem_range.mp hi; omega
    obtain ⟨x, y, x1, x2, x3, x4⟩ := rname hi3 0 c'
    obtain ⟨t, d1, a1, m1, t1, t2⟩ := tdraw hn h1 (by omega) hb' (n + 1)
    exact ⟨(x, t), d1, by dsimp! [x2, x3, a1, Tst.il, rD], m1, x1, x4, t1, t2⟩
  have rl : rules.length = rk := by have := a4.len; simpa using this
  have k6 : rules.length ≤ 16777216 := by omega
  have L4 : c4.length = L := by rw [l4.len, l3.len, l2.len, l1.len, hL]
  have pln4 : Pln c4 := (((hp.like l1).like l2).like l3).like l4
  obtain ⟨_, c5, e5, l5, wk, rfl, w0, w1⟩ := Dr.app l4.bag (s_draw (w := 4) (by decide) (by decide) (l4.bag.app [.lst []]) (n + 7))
  obtain ⟨wk, rfl⟩ := Int.eq_ofNat_of_zero_le w0
  have sm2 := small_of (k := wk) (by omega)
  have L5 : c5.length = L := by rw [l5.len, L4]
  obtain ⟨c6, ws, v6, e6, l6, i6⟩ := w_loop hn hd h1 h4 (n := n) (L := L) (g1 := some (.int 4)) (g2 := some (.int 10)) (g4 := some (.tup (cols.map cD))) (g5 := some (.tup (rules.map rD))) wk 0 none (by omega) l5.bag (pln4.like l5) L5 (WInv.none hs)
  have L6 : c6.length = L := by rw [l6.len, L5]
  dsimp! [k6, nl_t, L4, e5, sm2]
  simp only [rb_assoc]
  refine PR.like ((l4.trans l5).trans l6) ?_
  refine bind_R (R := PR c6 m L) e6 ?_
  have wl := i6.len
  have k7 : ws.length ≤ 16777216 := by omega
  dsimp! [list_e0 L6]
  simp only [rb_assoc]
  refine compS_R (m := m) (L := L) (e := wD) (g := fun p : Str × Knd => D.str p.1) (R := PR c6 m L) (xs := ws) rfl l6.bag L6 (by simp [MP.sizeLine]; omega) (fun p hp' c' hb' hL' => ?_) fun as c7 l7 sub => ?_
  · obtain ⟨_, d1, a1, m1, u, rfl, u0, u1⟩ := Dr.app hb' (s_draw (w := 3) (by decide) (by decide) (hb'.app [.lst (ws.map wD)]) (n + 7))
    by_cases q : 0 < u
    · exact ⟨some (.str p.1), d1, by dsimp! [a1, q, wD], m1, .inr rfl⟩
    · exact ⟨none, d1, by dsimp! [a1, q, wD], m1, .inl rfl⟩
  have L7 : c7.length = L := by rw [l7.len, L6]
  have al : as.length ≤ ws.length := sub.length_le
  have k8 : as.length ≤ 16777216 := by omega
  have e7 : as.map (fun p : Str × Knd => D.str p.1) = (as.map (·.1)).map .str := by simp
  rw [e7]
  let p0 : Prt := ⟨cols, rules, ws, as.map (·.1), []⟩
  have hp0 : p0 = ⟨cols, rules, ws, as.map (·.1), []⟩ := rfl
  have wok : WOk ws := ⟨i6.nm, i6.ok, i6.nd, by omega⟩
  have po : POk p0 := by
    refine ⟨?_, ?_, ?_, ?_, ?_, ?_, ?_, ?_, ?_, wok, ?_, ?_, ?_, ?_, ?_⟩
    · intro q hq
      have : q.1 ∈ cols.map (·.1) := List.mem_map.mpr ⟨q, hq, rfl⟩
      rw [cf] at this
      exact hn _ this
    · exact a2.all fun x y h => h.2
    · show (cols.map (·.1)).Nodup; rw [cf]; exact hd
    · show 1 ≤ cols.length; omega
    · show cols.length ≤ 4; omega
    · exact a4.all fun x y h => ⟨h.2.1, h.2.2.1⟩
    · intro q hq y hy
      show y ∈ cols.map (·.1)
      rw [cf]
      exact (a4.all (Ψ := fun y : Str × Tst => ∀ z ∈ y.2.cols, z ∈ hs) fun x y h => h.2.2.2) q hq y hy
    · refine a4.nd (fun x1 y1 x2 y2 h1 h2 e => ?_) List.nodup_range
      have g1 := h1.1
      have g2 := h2.1
      rw [e] at g1
      have nd : rn3.Nodup := by decide +kernel
      have b1 : x1 < rn3.length := (List.getElem?_eq_some_iff.mp g1).1
      have b2 : x2 < rn3.length := (List.getElem?_eq_some_iff.mp g2).1
      have g3 : rn3[x1] = rn3[x2] := by rw [(List.getElem?_eq_some_iff.mp g1).2, (List.getElem?_eq_some_iff.mp g2).2]
      exact (List.getElem_inj nd).mp g3
    · show rules.length ≤ 3; omega
    · intro q hq y hy
      show y ∈ cols.map (·.1)
      rw [cf]
      exact i6.wm q hq y hy
    · intro x hx
      obtain ⟨q, hq, rfl⟩ := List.mem_map.mp hx
      exact List.mem_map.mpr ⟨q, sub.subset hq, rfl⟩
    · exact (sub.map _).nodup i6.nd
    · show (as.map (·.1)).length ≤ 3; simp; omega
    · show ([] : List Stp).length ≤ 10; simp
  have bo : SOk p0.beg := by
    refine ⟨po.cn, po.cd, po.c1, po.c4, po.rn, by have := po.r3; exact Nat.le_succ_of_le this, fun x hx => ?_, ?_⟩
    · obtain ⟨q, hq, rfl⟩ := List.mem_map.mp (List.mem_filter.mp hx).1
      exact i6.nm q hq
    · exact fil_len (by show (ws.map (·.1)).length ≤ 4; simp; omega)
  have ch0 : Chain p0.ws p0.beg p0.steps [p0.beg] := .nil _ bo
  have pln7 : Pln c7 := ((pln4.like l5).like l6).like l7
  obtain ⟨_, c8, e8, l8, sk, rfl, s0, s1⟩ := Dr.app l7.bag (s_draw (w := 11) (by decide) (by decide) (l7.bag.app [.lst (ws.map wD), .lst (parD p0)]) (n + 7))
  obtain ⟨sk, rfl⟩ := Int.eq_ofNat_of_zero_le s0
  have sm3 := small_of (k := sk) (by omega)
  have L8 : c8.length = L := by rw [l8.len, L7]
  obtain ⟨c9, p', ss', v9, w9, e9, l9, po', ch'⟩ := s_loop (n := n) (L := L) (A := .lst (ws.map wD)) (ws_closed i6.nm i6.ok) (g1 := some (.int 4)) (g2 := some (.int 10)) (g3 := some (.lst (hs.map .str))) (g4 := some (.tup (cols.map cD))) (g5 := some (.tup (rules.map rD))) (g6 := some (.ref L)) (g8 := some (.tup ((as.map (·.1)).map .str))) (g11 := none) (g12 := none) sk 0 (p := p0) v6 none (by show 0 + sk ≤ 10; omega) l8.bag (pln7.like l8) L8 po ch0
  have pd0 : parD p0 = [.tup (cols.map cD), .tup (rules.map rD), .tup (ws.map wD), .tup ((as.map (·.1)).map .str), .tup []] := rfl
  rw [pd0] at e8 e9
  have k9 : (as.map (·.1)).length ≤ 16777216 := by simpa using k8
  generalize hAs : as.map (·.1) = act at *
  dsimp! [k8, k9, nl_t, L7, tup_ref (cell_e0 L7 _ _), e8, sm3]
  simp only [rb_assoc]
  refine PR.like ((l7.trans l8).trans l9) ?_
  refine bind_R (R := PR c9 m L) e9 ?_
  dsimp! []
  exact ⟨c9, .lst (ws.map wD), p', ss', rfl, .refl l9.bag, po', ch'⟩
end Hk01
end
section
set_option maxRecDepth 100000
set_option maxHeartbeats 1000000
namespace Hk01
open PySem MP
theorem sl7 (b : Nat) (c : List Cell) (ns : List Int) : slSem b c (.scr ns) none (some 7) = some (.lst ((ns.take 7).map .int)) := by
  show some (D.lst ((cutD ns none (some 7)).map D.int)) = _
  have h : cutD ns none (some 7) = ns.take 7 := sl_to ns 7
  rw [h]
theorem bn_pow (b : Nat) (c : List Cell) : binSem .Pow b c (.int 10) (.int 15) = some (.int (10 ^ 15)) := by rfl
theorem ix_scr (b : Nat) (c : List Cell) (ns : List Int) (i : Int) : ixSem b c (.scr ns) (.int i) = L2.atI (ns.map D.int) i := rfl
theorem for_nxR {α β : Type} {R : Res β → Prop} {step : D → MP.Env → Nat → List Cell → Res Fl} {b : Nat} {c : List Cell} {e : α → D} {k : Fl → List Cell → Res β} (I : MP.Env → Prop) {xs : List α} {γ : MP.Env} (h0 : I γ)
    (hs : ∀ x ∈ xs, ∀ γ, I γ → Goes (step (e x) γ b c) c I) (hk : ∀ γ, I γ → R (k (.nx γ) c)) : R ((forL step b (xs.map e) γ c).bind k) := by
  induction xs generalizing γ with
  | nil => exact hk γ h0
  | cons x xs ih =>
    obtain ⟨γ1, h1, h2⟩ := goes_of (hs x (List.mem_cons_self ..) γ h0)
    rw [List.map_cons, forL, h1, Res.bind_ok]
    exact ih h2 fun y hy => hs y (List.mem_cons_of_mem _ hy)
def BR (c : List Cell) (r : Res D) : Prop := ∃ a b : Int, r = .ok (.ref c.length) (c ++ [.lst [.int a, .int b, .int 0]]) ∧ 0 ≤ a
theorem s_bag (ns : List Int) (k : Nat) (n : Nat) (c : List Cell) : ∃ x, (calls P (n + 1)).fn "_law_bag" [.scr ns, .int k] 0 c = .ok (.ref c.length) (c ++ [x]) ∧ BagAt (c ++ [x]) c.length ∧ ∀ b, Cell.closed b x = true := by
  have m1 : small64 80021 = true := by decide
  have m2 : small64 41647 = true := by decide
  have m3 : small64 17 = true := by decide
  have m4 : small64 93001 = true := by decide
  suffices h : BR c ((calls P (n + 1)).fn "_law_bag" [.scr ns, .int k] 0 c) by
    obtain ⟨a, b, e, h0⟩ := h
    exact ⟨_, e, ⟨a, b, 0, by rw [List.getElem?_append_right (Nat.le_refl _), Nat.sub_self]; rfl, h0⟩, fun _ => rfl⟩
  rw [calls_keep f__law_bag rfl rfl]
  have rest : ∀ hd seed : Int, BR c ((evSs P (calls P n) (match c__law_bag.body with | .cons _ r => r | r => r) [some (.scr ns), some (.int k), some (.int hd), some (.int seed), none, none] 0 c).bind fin) := fun hd seed => by
    dsimp! [c__law_bag, sl7]
    simp only [rb_assoc]
    rw [← List.map_take]
    refine for_nxR (xs := ns.take 7) (e := D.int) (R := BR c) (fun γ => ∃ (sd : Int) (v : Option D), γ = [some (.scr ns), some (.int k), some (.int hd), some (.int sd), v, none]) ⟨seed, none, rfl⟩ ?_ ?_
    · rintro x hx γ ⟨sd, v, rfl⟩
      dsimp! [bn_mul, m2, bs_int, bn_mod, m3, goes_nx]
    · rintro γ ⟨sd, v, rfl⟩
      by_cases q : hd < 0
      · dsimp! [q, bs_abs, bs_int, bn_mod, bn_mul, m4, nl_t]
        exact ⟨_, _, rfl, by omega⟩
      · by_cases q2 : (1000000000000000 : Int) ≤ hd
        · dsimp! [q, bn_pow, q2, bs_abs, bs_int, bn_mod, bn_mul, m4, nl_t]
          exact ⟨_, _, rfl, by omega⟩
        · dsimp! [q, bn_pow, q2, bs_abs, bs_int, bn_mod, bn_mul, m4, nl_t]
          exact ⟨_, _, rfl, by omega⟩
  have e0 : ∃ hd sd : Int, evS P (calls P n) (match c__law_bag.body with | .cons s _ => s | .nil => .pas) [some (.scr ns), some (.int k), none, none, none, none] 0 c = .ok (.nx [some (.scr ns), some (.int k), some (.int hd), some (.int sd), none, none]) c := by
    by_cases hk : k < ns.length
    · have e : L2.atI (ns.map D.int) (k : Int) = some (.int ns[k]) := at_map (List.getElem?_eq_getElem hk)
      refine ⟨ns[k], 80021 * ((k : Int) + 5), ?_⟩
      dsimp! [c__law_bag, hk, ix_scr, e, bs_int, bn_mul, m1]
    · refine ⟨0, 80021 * ((k : Int) + 5), ?_⟩
      dsimp! [c__law_bag, hk, bn_mul, m1]
  obtain ⟨hd, sd, e0⟩ := e0
  have key : evSs P (calls P n) c__law_bag.body (env0 c__law_bag [.scr ns, .int k]) 0 c = evSs P (calls P n) (match c__law_bag.body with | .cons _ r => r | r => r) [some (.scr ns), some (.int k), some (.int hd), some (.int sd), none, none] 0 c := by
    show ((evS P (calls P n) (match c__law_bag.body with | .cons s _ => s | .nil => .pas) [some (.scr ns), some (.int k), none, none, none, none] 0 c).bind _) = _
    rw [e0]
    rfl
  rw [key]
  exact rest hd sd
theorem s_law_made {p : Prt} (h : POk p) {ss : List Std} (hc : Chain p.ws p.beg p.steps ss) (n b : Nat) (c : List Cell) : (calls P (n + 17)).fn "_law_made" [.lst (parD p)] b c = .ok (plD p ss) c := by
  rw [calls_keep f__law_made rfl rfl]
  have m := mk_Plan h hc n b c
  have t1 : isLam (tabD p) = false := rfl
  dsimp! [c__law_made, parD, m]
theorem s_law_heads {s : Std} (hl : s.cols.length ≤ 100) (n b : Nat) (c : List Cell) : (calls P (n + 1)).fn "_law_heads" [s.law] b c = .ok (.lst (s.heads.map .str)) c := by
  rw [calls_keep f__law_heads rfl rfl]
  dsimp! [c__law_heads, law_il, (st_ix s b c).1]
  rw [compL_mapT (f := fun p : Str × Option Int => .str p.1) (fun p _ => by dsimp! [cD]) (by simp [MP.sizeLine]; omega)]
  have w1 : s.cols.map (fun p : Str × Option Int => D.str p.1) = s.heads.map .str := by simp [Std.heads]
  have k1 : s.heads.length ≤ 16777216 := by rw [heads_len]; omega
  rw [w1]
  dsimp! [k1]
end Hk01
end
section
set_option maxRecDepth 100000
set_option maxHeartbeats 1000000
namespace Hk01
open PySem MP
/-- a text of at most so many signs -/
structure TX (n : Nat) (t : Str) : Prop where
  len : t.length ≤ n
  ok : PyData.canLay0 (.str t) = true
theorem TX.mono {n m : Nat} {t : Str} (h : TX n t) (k : n ≤ m) : TX m t := ⟨Nat.le_trans h.len k, h.ok⟩
theorem can_cps (t : Str) : PyData.canLay0 (.str t) = t.cps.all (· < 0x110000) := by simp [PyData.canLay0, PyData.strOk]
theorem TX.app {n m : Nat} {s t : Str} (h : TX n s) (k : TX m t) : TX (n + m) (s ++ t) := by
  refine ⟨?_, ?_⟩
  · have e : (s ++ t).length = s.length + t.length := by show (s.cps ++ t.cps).size = s.cps.size + t.cps.size; rw [Array.size_append]
    have := h.len
    have := k.len
    omega
  · have h1 := h.ok
    have h2 := k.ok
    rw [can_cps] at h1 h2 ⊢
    show (s.cps ++ t.cps).all (· < 0x110000) = true
    rw [Array.all_append, h1, h2]
    rfl
theorem tx_join {n : Nat} : ∀ {ts : List Str}, (∀ t ∈ ts, TX n t) → TX ((n + 2) * ts.length) (Str.join ", " ts)
  | [], _ => by
    have e : Str.join ", " ([] : List Str) = "" := by kernel_rfl
    rw [e]
    exact ⟨by show 0 ≤ _; omega, by decide +kernel⟩
  | [x], h => by
    have := h x (by simp)
    exact this.mono (by simp)
  | x :: y :: r, h => by
    have h1 := h x (by simp)
    have h2 := tx_join (ts := y :: r) fun t ht => h t (List.mem_cons_of_mem _ ht)
    have h3 : TX 2 ((", " : String) : Str) := ⟨by decide +kernel, by decide +kernel⟩
    have e : Str.join ", " (x :: y :: r) = x ++ ", " ++ Str.join ", " (y :: r) := rfl
    rw [e]
    refine ((h1.app h3).app h2).mono ?_
    simp only [List.length_cons, Nat.mul_add]
    omega
theorem tx_tup {n : Nat} {ts : List Str} (h : ∀ t ∈ ts, TX n t) : TX ((n + 2) * ts.length + 3) (PySem.tupleText ts) := by
  have h1 : TX 1 (("(" : String) : Str) := ⟨by decide +kernel, by decide +kernel⟩
  have h2 : TX 2 ((if ts.length == 1 then ",)" else ")" : String) : Str) := by
    by_cases e : (ts.length == 1) = true
    · rw [if_pos e]; exact ⟨by decide +kernel, by decide +kernel⟩
    · rw [if_neg e]; exact ⟨by decide +kernel, by decide +kernel⟩
  unfold PySem.tupleText
  exact ((h1.app (tx_join h)).app h2).mono (by omega)
theorem tx_from {n : Nat} : ∀ {ts : List Str} (k : Nat) {acc : Str} {m : Nat}, (∀ t ∈ ts, TX n t) → TX m acc → TX (m + (n + 2) * ts.length) (PySem.textFrom k acc ts)
  | [], k, acc, m, _, ha => ha.mono (by simp)
  | t :: ts, k, acc, m, h, ha => by
    have h1 : TX 2 ((if k > 0 then ", " else "" : String) : Str) := by
      by_cases e : k > 0
      · rw [if_pos e]; exact ⟨by decide +kernel, by decide +kernel⟩
      · rw [if_neg e]; exact ⟨by decide +kernel, by decide +kernel⟩
    have := tx_from (ts := ts) (k + 1) (fun t ht => h t (List.mem_cons_of_mem _ ht)) ((ha.app h1).app (h t (by simp)))
    refine this.mono ?_
    simp only [List.length_cons, Nat.mul_add]
    omega
theorem tx_lst {n : Nat} {ts : List Str} (h : ∀ t ∈ ts, TX n t) : TX ((n + 2) * ts.length + 2) (PySem.listText ts) := by
  have h1 : TX 1 (("[" : String) : Str) := ⟨by decide +kernel, by decide +kernel⟩
  have h2 : TX 1 (("]" : String) : Str) := ⟨by decide +kernel, by decide +kernel⟩
  exact ((tx_from 0 h h1).app h2).mono (by omega)
/-- data whose text is known to be short -/
def RP (n k : Nat) (d : D) : Prop := ∃ p, toP d = some p ∧ p.showable = true ∧ p.hasDict = false ∧ p.depth ≤ k ∧ TX n p.shown
theorem RP.mono {n m k j : Nat} {d : D} (h : RP n k d) (h1 : n ≤ m) (h2 : k ≤ j) : RP m j d := by
  obtain ⟨p, a, b, c, e, f⟩ := h
  exact ⟨p, a, b, c, by omega, f.mono h1⟩
theorem rps {n k : Nat} : ∀ {ds : List D}, (∀ d ∈ ds, RP n k d) → ∃ ps, toPs ds = some ps ∧ PyData.showableAll ps = true ∧ PyData.hasDictAll ps = false ∧ PyData.depthAll ps ≤ k ∧ (∀ t ∈ PyData.shownAll ps, TX n t) ∧ (PyData.shownAll ps).length = ds.length
  | [], _ => ⟨[], rfl, by simp [PyData.showableAll], by simp [PyData.hasDictAll], by simp [PyData.depthAll], fun t ht => by simp [PyData.shownAll] at ht, by simp [PyData.shownAll]⟩
  | d :: ds, h => by
    obtain ⟨p, a, b, c, e, f⟩ := h d (by simp)
    obtain ⟨ps, a2, b2, c2, e2, f2, g2⟩ := rps (ds := ds) fun x hx => h x (List.mem_cons_of_mem _ hx)
    refine ⟨p :: ps, by simp [toPs, a, a2], by simp [PyData.showableAll, b, b2], by simp [PyData.hasDictAll, c, c2], by simp only [PyData.depthAll]; omega, fun t ht => ?_, by simp [PyData.shownAll, g2]⟩
    simp only [PyData.shownAll, List.mem_cons] at ht
    rcases ht with rfl | ht
    · exact f
    · exact f2 t ht
theorem rp_tup {n k : Nat} {ds : List D} (h : ∀ d ∈ ds, RP n k d) : RP ((n + 2) * ds.length + 3) (k + 1) (.tup ds) := by
  obtain ⟨ps, a, b, c, e, f, g⟩ := rps h
  refine ⟨.tuple ps, by simp [toP, a], by simpa [PyData.showable] using b, by simpa [PyData.hasDict] using c, by simp only [PyData.depth]; omega, ?_⟩
  have := tx_tup f
  rw [g] at this
  simpa [PyData.shown] using this
theorem rp_lst {n k : Nat} {ds : List D} (h : ∀ d ∈ ds, RP n k d) : RP ((n + 2) * ds.length + 2) (k + 1) (.lst ds) := by
  obtain ⟨ps, a, b, c, e, f, g⟩ := rps h
  refine ⟨.list ps, by simp [toP, a], by simpa [PyData.showable] using b, by simpa [PyData.hasDict] using c, by simp only [PyData.depth]; omega, ?_⟩
  have := tx_lst f
  rw [g] at this
  simpa [PyData.shown] using this
theorem rp_nm {x : Str} (h : Nm x) : RP 20 0 (.str x) := ⟨.str x, rfl, by simp [PyData.showable], by simp [PyData.hasDict], by simp [PyData.depth], h.rp.1, h.rp.2⟩
theorem rp_lit {x : String} (h : ((PyData.shown (.str (Str.ofString x))).length ≤ 20 ∧ PyData.canLay0 (.str (PyData.shown (.str (Str.ofString x)))) = true) := by decide +kernel) : RP 20 0 (.str (Str.ofString x)) := ⟨.str _, rfl, by simp [PyData.showable], by simp [PyData.hasDict], by simp [PyData.depth], h.1, h.2⟩
theorem rp_non : RP 20 0 .non := ⟨.none, rfl, by simp [PyData.showable], by simp [PyData.hasDict], by simp [PyData.depth], by decide +kernel, by decide +kernel⟩
theorem small_ints : ∀ k : Fin 901, ((PyData.shown (.int (k.val : Int))).length ≤ 20 ∧ PyData.canLay0 (.str (PyData.shown (.int (k.val : Int)))) = true) ∧ ((PyData.shown (.int (-(k.val : Int)))).length ≤ 20 ∧ PyData.canLay0 (.str (PyData.shown (.int (-(k.val : Int))))) = true) ∧ PyData.showable (.int (k.val : Int)) = true ∧ PyData.showable (.int (-(k.val : Int))) = true := by decide +kernel
theorem rp_int {i : Int} (h1 : -900 ≤ i) (h2 : i ≤ 900) : RP 20 0 (.int i) := by
  by_cases h : 0 ≤ i
  · obtain ⟨k, rfl⟩ := Int.eq_ofNat_of_zero_le h
    obtain ⟨a, _, b, _⟩ := small_ints ⟨k, by omega⟩
    exact ⟨.int k, rfl, b, by simp [PyData.hasDict], by simp [PyData.depth], a.1, a.2⟩
  · obtain ⟨k, hk⟩ := Int.eq_ofNat_of_zero_le (show 0 ≤ -i by omega)
    have e : i = -(k : Int) := by omega
    subst e
    obtain ⟨_, a, _, b⟩ := small_ints ⟨k, by omega⟩
    exact ⟨.int _, rfl, b, by simp [PyData.hasDict], by simp [PyData.depth], a.1, a.2⟩
end Hk01
end
section
set_option maxRecDepth 100000
set_option maxHeartbeats 1000000
namespace Hk01
open PySem MP
theorem one_of {Ψ : D → Prop} {x : D} {xs : List D} (h : Ψ x) (hs : ∀ d ∈ xs, Ψ d) : ∀ d ∈ x :: xs, Ψ d := fun d hd => by
  rcases List.mem_cons.mp hd with z | z
  · rw [z]; exact h
  · exact hs d z
theorem none_of {Ψ : D → Prop} : ∀ d ∈ ([] : List D), Ψ d := fun d hd => by cases hd
theorem rp_o {o : Str} (h : o ∈ orders) : RP 20 0 (.str o) := by
  simp only [orders, List.mem_cons, List.not_mem_nil, or_false] at h
  rcases h with rfl | rfl | rfl | rfl | rfl | rfl <;> exact rp_lit
theorem pw (k : Nat) : 1 ≤ 4 ^ k := Nat.one_le_pow _ _ (by decide)
theorem rp_tst : ∀ {t : Tst} (k : Nat), t.ok → t.deep ≤ k → RP (100 * 4 ^ k) k t.d
  | .tru, k + 1, _, _ => (rp_tup (one_of (rp_lit (x := "true")) none_of)).mono (by have := pw (k + 1); simp; omega) (by omega)
  | .emp c, k + 1, h, _ => (rp_tup (one_of (rp_lit (x := "empty")) (one_of (rp_nm h) none_of))).mono (by have := pw (k + 1); simp; omega) (by omega)
  | .cmp c o i, k + 1, h, _ => (rp_tup (one_of (rp_lit (x := "compare")) (one_of (rp_nm h.1) (one_of (rp_o h.2.1) (one_of (rp_int h.2.2.1 h.2.2.2) none_of))))).mono (by have := pw (k + 1); simp; omega) (by omega)
  | .not t, k + 1, h, hd => by
    have i := rp_tst (t := t) k h (by simp only [Tst.deep] at hd; omega)
    have e := pw k
    refine (rp_tup (one_of ((rp_lit (x := "not")).mono (by omega) (Nat.zero_le k)) (one_of i none_of))).mono ?_ (Nat.le_refl _)
    rw [Nat.pow_succ]; simp; omega
  | .and s t, k + 1, h, hd => by
    have i := rp_tst (t := s) k h.1 (by simp only [Tst.deep] at hd; omega)
    have j := rp_tst (t := t) k h.2 (by simp only [Tst.deep] at hd; omega)
    have e := pw k
    refine (rp_tup (one_of ((rp_lit (x := "and")).mono (by omega) (Nat.zero_le k)) (one_of i (one_of j none_of)))).mono ?_ (Nat.le_refl _)
    rw [Nat.pow_succ]; simp; omega
  | .or s t, k + 1, h, hd => by
    have i := rp_tst (t := s) k h.1 (by simp only [Tst.deep] at hd; omega)
    have j := rp_tst (t := t) k h.2 (by simp only [Tst.deep] at hd; omega)
    have e := pw k
    refine (rp_tup (one_of ((rp_lit (x := "or")).mono (by omega) (Nat.zero_le k)) (one_of i (one_of j none_of)))).mono ?_ (Nat.le_refl _)
    rw [Nat.pow_succ]; simp; omega
  | .tru, 0, _, h => absurd h (by simp [Tst.deep])
  | .emp _, 0, _, h => absurd h (by simp [Tst.deep])
  | .cmp _ _ _, 0, _, h => absurd h (by simp [Tst.deep])
  | .not _, 0, _, h => absurd h (by simp [Tst.deep])
  | .and _ _, 0, _, h => absurd h (by simp [Tst.deep])
  | .or _ _, 0, _, h => absurd h (by simp [Tst.deep])
theorem rp_t {t : Tst} (h : TOk t) : RP 6400 3 t.d := rp_tst 3 h.ok h.deep
theorem rp_v {v : Option Int} (h : vOk v) : RP 20 0 (vD v) := by
  cases v with
  | none => exact rp_non
  | some i => exact rp_int h.1 h.2
theorem rp_src {s : Src} (h : s.ok) : RP 20 0 s.d := by
  cases s with
  | any => exact rp_lit
  | val v => exact rp_v h
theorem rp_map {α : Type} {e : α → D} {n k : Nat} {xs : List α} (h : ∀ x ∈ xs, RP n k (e x)) : ∀ d ∈ xs.map e, RP n k d := fun d hd => by
  obtain ⟨x, hx, rfl⟩ := List.mem_map.mp hd
  exact h x hx
theorem rp_pairs {ps : List (Str × Src)} (h : PairsOk ps true) : RP 199 2 (.tup (ps.map pD)) := by
  have f := h.few
  have a : ∀ p ∈ ps, RP 47 1 (pD p) := fun p hp => by
    have q1 := rp_src (h.src p hp)
    exact (rp_tup (one_of (rp_nm (h.nm p hp)) (one_of q1 none_of))).mono (by simp) (by omega)
  refine (rp_tup (rp_map a)).mono ?_ (Nat.le_refl _)
  simp; omega
theorem rp_kind {k : Knd} (h : k.ok) : RP 25611 4 k.d := by
  cases k with
  | ins ps t => exact (rp_tup (one_of ((rp_lit (x := "insert")).mono (by omega) (Nat.zero_le 3)) (one_of ((rp_pairs h.1).mono (by omega) (by omega)) (one_of (rp_t h.2) none_of)))).mono (by simp) (by omega)
  | upd ps t u => exact (rp_tup (one_of ((rp_lit (x := "update")).mono (by omega) (Nat.zero_le 3)) (one_of ((rp_pairs h.1).mono (by omega) (by omega)) (one_of (rp_t h.2.2.1) (one_of (rp_t h.2.2.2) none_of))))).mono (by simp) (by omega)
  | del t => exact (rp_tup (one_of ((rp_lit (x := "delete")).mono (by omega) (Nat.zero_le 3)) (one_of (rp_t h) none_of))).mono (by simp) (by omega)
theorem rp_step {ws : List (Str × Knd)} {s : Std} {st : Stp} (h : Drawn ws s st) : RP 19209 4 st.d := by
  cases st with
  | add x t => exact (rp_tup (one_of ((rp_lit (x := "add")).mono (by omega) (Nat.zero_le 3)) (one_of ((rp_nm h.1).mono (by omega) (Nat.zero_le 3)) (one_of (rp_t h.2.1) none_of)))).mono (by simp) (by omega)
  | look x => exact (rp_tup (one_of (rp_lit (x := "look")) (one_of (rp_nm h) none_of))).mono (by simp) (by omega)
  | drop x => exact (rp_tup (one_of (rp_lit (x := "drop")) (one_of (rp_nm h) none_of))).mono (by simp) (by omega)
  | beg x => exact (rp_tup (one_of (rp_lit (x := "begin")) (one_of (rp_nm h.1) none_of))).mono (by simp) (by omega)
  | fin x => exact (rp_tup (one_of (rp_lit (x := "end")) (one_of (rp_nm h.1) none_of))).mono (by simp) (by omega)
  | dfl x v => exact (rp_tup (one_of (rp_lit (x := "default")) (one_of (rp_nm h.1) (one_of (rp_v h.2.2) none_of)))).mono (by simp) (by omega)
  | col x v => exact (rp_tup (one_of (rp_lit (x := "column")) (one_of (rp_nm h.1) (one_of (rp_v h.2) none_of)))).mono (by simp) (by omega)
  | rem x => exact (rp_tup (one_of (rp_lit (x := "remove")) (one_of (rp_nm h.1) none_of))).mono (by simp) (by omega)
  | fil x v t =>
    have a : RP 52 2 (.tup [.tup [.str x, vD v]]) := (rp_tup (one_of (rp_tup (one_of (rp_nm h.1) (one_of (rp_v h.2.2.1) none_of))) none_of)).mono (by simp) (by omega)
    exact (rp_tup (one_of ((rp_lit (x := "fill")).mono (by omega) (Nat.zero_le 3)) (one_of (a.mono (by omega) (by omega)) (one_of (rp_t h.2.2.2.1) none_of)))).mono (by simp) (by omega)
theorem rp_parts {p : Prt} (h : POk p) {ss : List Std} (hc : Chain p.ws p.beg p.steps ss) : RP 960577 7 (.lst (parD p)) := by
  have c4 := h.c4
  have r3 := h.r3
  have w3 := h.w.few
  have a3 := h.a3
  have s10 := h.s10
  have q1 : ∀ q ∈ p.cols, RP 47 1 (cD q) := fun q hq => by
    have z := rp_v (h.cv q hq)
    exact (rp_tup (one_of (rp_nm (h.cn q hq)) (one_of z none_of))).mono (by simp) (by omega)
  have q2 : ∀ q ∈ p.rules, RP 12807 4 (rD q) := fun q hq => by
    have z := rp_t (h.rn q hq).2
    exact (rp_tup (one_of ((rp_nm (h.rn q hq).1).mono (by omega) (Nat.zero_le 3)) (one_of z none_of))).mono (by simp) (by omega)
  have q3 : ∀ q ∈ p.ws, RP 51229 5 (wD q) := fun q hq => by
    have z := rp_kind (h.w.ok q hq)
    exact (rp_tup (one_of ((rp_nm (h.w.nm q hq)).mono (by omega) (Nat.zero_le 4)) (one_of z none_of))).mono (by simp) (by omega)
  have q5 : ∀ q ∈ p.steps, RP 19209 4 (Stp.d q) := fun q hq => by obtain ⟨s, d⟩ := hc.drawn q hq; exact rp_step d
  have p1 : RP 192113 6 (tabD p) := (rp_tup (rp_map q1)).mono (by simp; omega) (by omega)
  have p2 : RP 192113 6 (rulD p) := (rp_tup (rp_map q2)).mono (by simp; omega) (by omega)
  have p3 : RP 192113 6 (wriD p) := (rp_tup (rp_map q3)).mono (by simp; omega) (by omega)
  have p4 : RP 192113 6 (actD p) := (rp_tup (rp_map (e := D.str) fun q hq => rp_nm (h.an q hq))).mono (by simp; omega) (by omega)
  have p5 : RP 192113 6 (steD p) := (rp_tup (rp_map q5)).mono (by simp; omega) (by omega)
  exact (rp_lst (one_of p1 (one_of p2 (one_of p3 (one_of p4 (one_of p5 none_of)))))).mono (by simp) (by omega)
theorem s_repr {p : Prt} (h : POk p) {ss : List Std} (hc : Chain p.ws p.beg p.steps ss) : ∃ t : Str, PyData.canLay0 (.str t) = true ∧ ∀ b c, bltSem .repr [.lst (parD p)] b c = some (.str t) := by
  obtain ⟨q, a, s, d, e, f⟩ := rp_parts h hc
  refine ⟨q.shown, f.ok, fun b c => ?_⟩
  show reprSem b c (.lst (parD p)) = _
  unfold reprSem
  have e1 : deref b c (.lst (parD p)) = .lst (parD p) := rfl
  rw [e1, a]
  have hl := f.len
  have c1 : (q.showable && (!q.hasDict && (decide (q.shown.length ≤ MP.sizeLine) && decide (q.depth ≤ 100)))) = true := by
    rw [s, d, decide_eq_true (show q.shown.length ≤ MP.sizeLine by unfold MP.sizeLine; omega), decide_eq_true (show q.depth ≤ 100 by omega)]
    rfl
  dsimp only
  rw [if_pos c1]
end Hk01
end
section
set_option maxRecDepth 100000
set_option maxHeartbeats 1000000
namespace Hk01
open PySem MP
mutual
theorem eqD_refl : ∀ {k : Nat} {d : D}, lay k d = true → eqD d d = true
  | _, .non, _ => by simp [eqD, eqF]
  | _, .bl _, _ => by simp [eqD, eqF]
  | _, .int _, _ => by simp [eqD, eqF]
  | _, .str _, _ => by simp [eqD, eqF]
  | 0, .tup xs, h => by simp [lay] at h
  | 0, .lst xs, h => by simp [lay] at h
  | k + 1, .tup xs, h => by unfold eqD; exact eqDs_refl (by simpa [lay] using h)
  | k + 1, .lst xs, h => by unfold eqD; exact eqDs_refl (by simpa [lay] using h)
  | k, .dic _, h => by cases k <;> simp [lay] at h
  | k, .ins _ _, h => by cases k <;> simp [lay] at h
  | k, .ref _, h => by cases k <;> simp [lay] at h
  | k, .cls _, h => by cases k <;> simp [lay] at h
  | k, .fn _, h => by cases k <;> simp [lay] at h
  | k, .lam _ _ _ _, h => by cases k <;> simp [lay] at h
  | k, .scr _, h => by cases k <;> simp [lay] at h
theorem eqDs_refl : ∀ {k : Nat} {ds : List D}, layL k ds = true → eqDs ds ds = true
  | _, [], _ => by simp [eqDs]
  | k, x :: xs, h => by
    obtain ⟨h1, h2⟩ := Bool.and_eq_true_iff.mp (show (lay k x && layL k xs) = true by simpa [layL] using h)
    unfold eqDs
    rw [eqD_refl h1, eqDs_refl h2]
    rfl
end
theorem eq_self {k : Nat} {d : D} (h : lay k d = true) (hk : k ≤ 64) (b : Nat) (c : List Cell) : eqSem b c d d = some true := by rw [eqSem_lay h h hk hk, eqD_refl h]
theorem bn_rep (b : Nat) (c : List Cell) (x : D) : binSem .Mult b c (.lst [x]) (.int 2) = some (.lst [x, x]) := by first | rfl | simp [binSem, deref]
theorem kw_columns : P.kw "Plan.columns" 1 ["moment"] = some ([0, 1], []) := by kernel_rfl
theorem kw_in_force : P.kw "Plan.in_force" 1 ["moment"] = some ([0, 1], []) := by kernel_rfl
theorem kw_active_at : P.kw "Plan.active_at" 1 ["moment"] = some ([0, 1], []) := by kernel_rfl
theorem kw_init : P.kw "Plan.__init__" 1 ["steps", "active", "writers", "rules", "table"] = some ([0, 5, 4, 3, 2, 1], []) := by kernel_rfl
theorem two_lay {xs : List Str} (h : ∀ x ∈ xs, Nm x) : lay 2 (.lst [.tup (xs.map .str), .tup (xs.map .str)]) = true :=
  lay_lst (layL_cons (lay_act h (k := 0)) (layL_cons (lay_act h (k := 0)) layL_nil))
def mbody : Ss := (.cons (.par [9, 10, 11] (.cons (.lst (.cons (.blt .tuple (.cons (.call "_law_heads" (.cons (.idx (.var 5) (.var 8)) .nil) []) .nil)) .nil) false) (.cons (.lst .nil false) (.cons (.lst .nil false) .nil))))
 (.cons (.asg (.nm 10) (.lst (.cons (.blt .tuple (.cons (.comp (.idx (.var 12) (.con (.int 0))) (.nm 12) (.seq (.idx (.idx (.var 5) (.var 8)) (.con (.int 1)))) .none [12] false) .nil)) .nil) false))
 (.cons (.asg (.nm 11) (.lst (.cons (.blt .tuple (.cons (.idx (.idx (.var 5) (.var 8)) (.con (.int 2))) .nil)) .nil) false))
 (.cons (.ife (.e (.cmp .NotEq (.lst (.cons (.mth (.var 4) "columns" (.cons (.var 8) .nil)) (.cons (.mthk (.var 6) "columns" .nil (.cons (.var 8) .nil) ["moment"]) .nil)) false) (.bin .Mult (.var 9) (.con (.int 2)))))
 (.cons (.ret (.con (.bl false)))
 .nil)
 .nil)
 (.cons (.ife (.e (.cmp .NotEq (.lst (.cons (.mth (.var 4) "in_force" (.cons (.var 8) .nil)) (.cons (.mthk (.var 6) "in_force" .nil (.cons (.var 8) .nil) ["moment"]) .nil)) false) (.bin .Mult (.var 10) (.con (.int 2)))))
 (.cons (.ret (.con (.bl false)))
 .nil)
 .nil)
 (.cons (.ife (.e (.cmp .NotEq (.lst (.cons (.mth (.var 4) "active_at" (.cons (.var 8) .nil)) (.cons (.mthk (.var 6) "active_at" .nil (.cons (.var 8) .nil) ["moment"]) .nil)) false) (.bin .Mult (.var 11) (.con (.int 2)))))
 (.cons (.ret (.con (.bl false)))
 .nil)
 .nil)
 .nil))))))
theorem m_step {p : Prt} {ss : List Std} (hl : ss.length = p.steps.length + 1) {m : Nat} {s : Std} (hm : ss[m]? = some s) (h : SOk s) {b : Nat} {c : List Cell} {n : Nat} {g0 g1 g2 g3 g7 g9 g10 g11 g12 g13 : Option D} :
    Goes (evSs P (calls P (n + 4)) mbody [g0, g1, g2, g3, some (plD p ss), some (.lst (ss.map Std.law)), some (plD p ss), g7, some (.int m), g9, g10, g11, g12, g13] b c) c fun γ => ∃ v9 v10 v11, γ = [g0, g1, g2, g3, some (plD p ss), some (.lst (ss.map Std.law)), some (plD p ss), g7, some (.int m), v9, v10, v11, g12, g13] := by
  have h4 := h.few
  have hr := h.rl
  have hn : ∀ x ∈ s.heads, Nm x := fun x hx => by obtain ⟨q, hq, rfl⟩ := List.mem_map.mp hx; exact h.nm q hq
  have hf : ∀ x ∈ s.forced, Nm x := fun x hx => by obtain ⟨q, hq, rfl⟩ := List.mem_map.mp hx; exact (h.rn q hq).1
  have e1 := s_columns hl hm (by omega) n
  have e2 := s_in_force hl hm (by omega) n
  have e3 := s_active_at hl hm n
  have e4 := s_law_heads (s := s) (by omega) (n + 3)
  have k1 : s.rules.length ≤ 16777216 := by omega
  have w2 : s.rules.map (fun p : Str × Tst => D.str p.1) = s.forced.map .str := by simp [Std.forced]
  have st := st_ix s
  have c1 := fun b c => eq_self (two_lay hn) (by omega) b c
  have c2 := fun b c => eq_self (two_lay hf) (by omega) b c
  have c3 := fun b c => eq_self (two_lay h.an) (by omega) b c
  dsimp! [mbody, at_map hm, law_il, e4, (st b c).2.1, (st b c).2.2]
  rw [compL_mapT (f := fun p : Str × Tst => .str p.1) (fun p _ => by dsimp! [rD]) (by simp [MP.sizeLine]; omega), w2]
  have k2 : s.forced.length ≤ 16777216 := by simp [Std.forced]; omega
  dsimp! [k2, at_map hm, law_il, (st b c).2.2, L_il, L_cls, me_columns, L_ncolumns, e1, Es.len, kw_columns, pick, bn_rep, c1, me_in_force, L_nin_force, e2, kw_in_force, c2, me_active_at, L_nactive_at, e3, kw_active_at, c3, goes_nx]
end Hk01
end
section
set_option maxRecDepth 100000
set_option maxHeartbeats 1000000
namespace Hk01
open PySem MP
theorem plD_closed {p : Prt} (h : POk p) {ss : List Std} (hc : Chain p.ws p.beg p.steps ss) (b : Nat) : MP.closed b (plD p ss) = true := by
  have l0 : MP.closed b (.lst (ss.map Std.prg)) = true := by unfold MP.closed; exact Std.closedL hc.ok _
  have l1 := lay_closed b (lay_cols h.cn (k := 0))
  have l2 := lay_closed b (lay_rules h.rn (k := 0))
  have l3 := lay_closed b (lay_ws h.w (k := 0))
  have l4 := lay_closed b (lay_act h.an (k := 0))
  have l5 := lay_closed b (lay_steps hc (k := 0))
  show closedF b _ = true
  simp [closedF, l0, l1, l2, l3, l4, l5, tabD, rulD, wriD, actD, steD]
theorem cmp_ne {p q : Prt} {ss ts : List Std} (hp : layL 6 (parD p) = true) (hq : layL 6 (parD q) = true) (n b : Nat) (c : List Cell) : cmpX P (calls P (n + 2)) .NotEq (plD p ss) (plD q ts) b c = .ok (.bl (eqDs (parD p) (parD q) != true)) c := by
  have o : ownCmp P .NotEq b c (plD p ss) (plD q ts) = some (("Plan.__eq__" : Str), true, [plD p ss, plD q ts]) := by
    show (if (P.below "Plan" (.own "Plan")).isSome then (P.meth "Plan" "__eq__").map fun z => (z, true, [plD p ss, plD q ts]) else none) = _
    rw [be_Plan, me_eq]; rfl
  unfold cmpX
  rw [o]
  dsimp only
  rw [s_eq hp hq]
  rfl
theorem cmp_eq {p q : Prt} {ss ts : List Std} (hp : layL 6 (parD p) = true) (hq : layL 6 (parD q) = true) (n b : Nat) (c : List Cell) : cmpX P (calls P (n + 2)) .Eq (plD p ss) (plD q ts) b c = .ok (.bl (eqDs (parD p) (parD q) != false)) c := by
  have o : ownCmp P .Eq b c (plD p ss) (plD q ts) = some (("Plan.__eq__" : Str), false, [plD p ss, plD q ts]) := by
    show (if (P.below "Plan" (.own "Plan")).isSome then (P.meth "Plan" "__eq__").map fun z => (z, false, [plD p ss, plD q ts]) else none) = _
    rw [be_Plan, me_eq]; rfl
  unfold cmpX
  rw [o]
  dsimp only
  rw [s_eq hp hq]
  rfl
theorem cmp_eqL {p : Prt} {ss : List Std} (xs : List D) (n b : Nat) (c : List Cell) : cmpX P (calls P (n + 1)) .Eq (plD p ss) (.lst xs) b c = .ok (.bl false) c := by
  have o : ownCmp P .Eq b c (plD p ss) (.lst xs) = some (("Plan.__eq__" : Str), false, [plD p ss, .lst xs]) := by
    show (if (isTy P b c (.lst xs) (.own "Plan")).isSome then (P.meth "Plan" "__eq__").map fun z => (z, false, [plD p ss, .lst xs]) else none) = _
    rw [ty_lst_own, me_eq]; rfl
  unfold cmpX
  rw [o]
  dsimp only
  rw [s_eqL]
  rfl
theorem len_own {p : Prt} {ss : List Std} (h : p.steps.length ≤ 100) (n b : Nat) (c : List Cell) : bltX P (calls P (n + 1)) .len [plD p ss] b c = .ok (.int p.steps.length) c := by
  have o : ownLen P .len [plD p ss] b c = some ("Plan.__len__" : Str) := me_len
  unfold bltX
  rw [o]
  dsimp only
  rw [s_len]
  have e0 : (p.steps.length : Int) ≤ 100 := by omega
  have e : (0 : Int) ≤ (p.steps.length : Int) ∧ (p.steps.length : Int) < 2 ^ 63 := ⟨by omega, Int.lt_of_le_of_lt e0 (by decide)⟩
  have e2 : lenR (.int (p.steps.length : Int)) c = .ok (.int (p.steps.length : Int)) c := by
    unfold lenR
    exact if_pos e
  rw [noExc_ok, Res.bind_ok, e2]
def mD (q : Prt × List Std) : D := .tup [plD q.1 q.2, .lst (parD q.1)]
def mDs (ms : List (Prt × List Std)) : Cell := .lst (ms.map mD)
theorem mDs_closed {ms : List (Prt × List Std)} (h : ∀ q ∈ ms, POk q.1 ∧ Chain q.1.ws q.1.beg q.1.steps q.2) (b : Nat) : Cell.closed b (mDs ms) = true := by
  show closedL b (ms.map mD) = true
  induction ms with
  | nil => rfl
  | cons q ms ih =>
    obtain ⟨h1, h2⟩ := h q (List.mem_cons_self ..)
    have e1 := plD_closed h1 h2 b
    have e2 : MP.closed b (.lst (parD q.1)) = true := by unfold MP.closed; exact layL_closed b (par_lay h1 h2)
    rw [List.map_cons]
    unfold closedL
    rw [ih fun x hx => h x (List.mem_cons_of_mem _ hx)]
    have e3 : MP.closed b (mD q) = true := by
      unfold mD MP.closed closedL closedL closedL
      rw [e1, e2]
      rfl
    rw [e3]
    rfl
def rbody : Ss := (.cons (.asg (.nm 3) (.call "_law_plan" (.cons (.var 0) (.cons (.con (.int 4)) (.cons (.con (.int 10)) .nil))) []))
 (.cons (.par [4, 5] (.cons (.call "_law_made" (.cons (.var 3) .nil) []) (.cons (.call "_law_stands" (.cons (.var 3) .nil) []) .nil)))
 (.cons (.asg (.nm 6) (.mkk "Plan" .nil (.cons (.idx (.var 3) (.con (.int 4))) (.cons (.idx (.var 3) (.con (.int 3))) (.cons (.idx (.var 3) (.con (.int 2))) (.cons (.idx (.var 3) (.con (.int 1))) (.cons (.idx (.var 3) (.con (.int 0))) .nil))))) ["steps", "active", "writers", "rules", "table"]))
 (.cons (.asg (.nm 7) (.lst (.cons (.att (.var 4) "table") (.cons (.att (.var 4) "rules") (.cons (.att (.var 4) "writers") (.cons (.att (.var 4) "active") (.cons (.att (.var 4) "steps") .nil))))) false))
 (.cons (.ife (.orr (.cons (.e (.cmp .NotEq (.blt .repr (.cons (.var 7) .nil)) (.blt .repr (.cons (.var 3) .nil)))) (.cons (.e (.cmp .NotEq (.var 4) (.var 6))) (.cons (.e (.cmp .NotEq (.blt .len (.cons (.var 4) .nil)) (.blt .len (.cons (.idx (.var 3) (.con (.int 4))) .nil)))) (.one (.e (.cmp .Eq (.var 4) (.var 3))))))))
 (.cons (.ret (.con (.bl false)))
 .nil)
 .nil)
 (.cons (.for (.nm 8) (.rng (.bin .Add (.blt .len (.cons (.idx (.var 3) (.con (.int 4))) .nil)) (.con (.int 1)))) mbody)
 (.cons (.expr (.app (.var 1) (.tup (.cons (.var 4) (.cons (.var 3) .nil)))))
 .nil)))))))
theorem goes_mono {r : Res Fl} {c : List Cell} {I J : MP.Env → Prop} (h : Goes r c I) (k : ∀ γ, I γ → J γ) : Goes r c J := by
  obtain ⟨γ, rfl, i⟩ := goes_of h
  exact ⟨rfl, k γ i⟩
def RR (m L : Nat) (g2 g12 g13 : Option D) (st : List Cell) (r : Res Fl) : Prop := ∃ v3 v4 v5 v6 v7 v8 v9 v10 v11 : Option D, r = .ok (.nx [some (.ref m), some (.ref L), g2, v3, v4, v5, v6, v7, v8, v9, v10, v11, g12, g13]) st
theorem r_step {c : List Cell} {m L n : Nat} (hb : BagAt c m) (hp : Pln c) (hL : c.length = L) {ms : List (Prt × List Std)} (hms : ∀ q ∈ ms, POk q.1 ∧ Chain q.1.ws q.1.beg q.1.steps q.2) (hl : ms.length ≤ 10) {g2 g3 g4 g5 g6 g7 g8 g9 g10 g11 g12 g13 : Option D} :
    ∃ p ss c1 v3 v4 v5 v6 v7 v8 v9 v10 v11, evSs P (calls P (n + 20)) rbody [some (.ref m), some (.ref L), g2, g3, g4, g5, g6, g7, g8, g9, g10, g11, g12, g13] 0 (c ++ [mDs ms]) = .ok (.nx [some (.ref m), some (.ref L), g2, v3, v4, v5, v6, v7, v8, v9, v10, v11, g12, g13]) (c1 ++ [mDs (ms ++ [(p, ss)])]) ∧ Like c m c1 ∧ POk p ∧ Chain p.ws p.beg p.steps ss := by
  obtain ⟨_, c1, e1, l1, p, ss, rfl, po, ch⟩ := Dr.app hb (s_law_plan (hb.app [mDs ms]) (hp.app (mDs_closed hms)) (n + 11))
  have L1 : c1.length = L := by rw [l1.len, hL]
  have lp := par_lay po ch
  have e2 := s_law_made po ch (n + 3)
  have e3 := s_law_stands po (PAt.lst (c1 ++ [mDs ms]) p) ((hp.like l1).app (mDs_closed hms)) ch (n + 13)
  have e4 := mk_Plan po ch (n + 4)
  obtain ⟨t, t1, t2⟩ := s_repr po ch
  have ne := cmp_ne (ss := ss) (ts := ss) lp lp (n + 18)
  have rf : eqDs (parD p) (parD p) = true := eqDs_refl lp
  have s10 := po.s10
  have ln := len_own (p := p) (ss := ss) (by omega) (n + 19)
  have el := cmp_eqL (p := p) (ss := ss) (parD p) (n + 19)
  have pe : parD p = [tabD p, rulD p, wriD p, actD p, steD p] := rfl
  have sm := small_of (k := p.steps.length + 1) (by omega)
  have sz : ms.length < 16777216 := by omega
  have lcl := ch.len
  have ts : ∀ b c, eqSem b c (.str t) (.str t) = some true := fun b c => by rw [eq_str t1 t1]; simp
  simp only [rf] at ne
  have st : steD p = .tup (p.steps.map Stp.d) := rfl
  suffices hR : RR m L g2 g12 g13 (c1 ++ [mDs (ms ++ [(p, ss)])]) (evSs P (calls P (n + 20)) rbody [some (.ref m), some (.ref L), g2, g3, g4, g5, g6, g7, g8, g9, g10, g11, g12, g13] 0 (c ++ [mDs ms])) by
    obtain ⟨v3, v4, v5, v6, v7, v8, v9, v10, v11, e⟩ := hR
    exact ⟨p, ss, c1, v3, v4, v5, v6, v7, v8, v9, v10, v11, e, l1, po, ch⟩
  have q0 : ∀ b c, ixSem b c (.lst (parD p)) (.int 0) = some (tabD p) := fun _ _ => by rw [ix_lst]; exact atI_0 _ _
  have q1 : ∀ b c, ixSem b c (.lst (parD p)) (.int 1) = some (rulD p) := fun _ _ => by rw [ix_lst]; exact atI_1 _ _ _
  have q2 : ∀ b c, ixSem b c (.lst (parD p)) (.int 2) = some (wriD p) := fun _ _ => by rw [ix_lst]; exact atI_2 _ _ _ _
  have q3 : ∀ b c, ixSem b c (.lst (parD p)) (.int 3) = some (actD p) := fun _ _ => by rw [ix_lst]; exact atI_3 _ _ _ _ _
  have q4 : ∀ b c, ixSem b c (.lst (parD p)) (.int 4) = some (steD p) := fun _ _ => by rw [ix_lst]; exact atI_4 _ _ _ _ _ _
  have t2' : ∀ b c, bltSem .repr [.lst [tabD p, rulD p, wriD p, actD p, steD p]] b c = some (.str t) := t2
  generalize hM : mDs ms = M at *
  generalize hPa : D.lst (parD p) = PA at *
  have pil : isLam PA = false := by rw [← hPa]; rfl
  dsimp! [rbody, e1, pil, e2, e3, i_Plan, kw_init, Es.len, q0, q1, q2, q3, q4, pick, L_il, L_cls, pp_table, pf_table, L_table, pp_rules, pf_rules, L_rules, pp_writers, pf_writers, L_writers, pp_active, pf_active, L_active, pp_steps, pf_steps, L_steps]
  have hstl : ∀ (call : Call) (b : Nat) (c : List Cell), bltX P call .len [steD p] b c = .ok (.int (p.steps.length : Int)) c := fun call b c => by
    rw [st, bx_len_tup, bs_len_tup, List.length_map]
    rfl
  dsimp! [e4, t2', t2, ts, ne, ln, q4, hstl, eq_int, el, pil, L_il, L_cls, pp_table, pf_table, L_table, pp_rules, pf_rules, L_rules, pp_writers, pf_writers, L_writers, pp_active, pf_active, L_active, pp_steps, pf_steps, L_steps]
  have e9 : ((p.steps.length + 1 : Nat) : Int) = (p.steps.length : Int) + 1 := by omega
  rw [e9] at sm
  rw [if_pos sm]
  simp only [Res.bind_ok, fw_xs]
  rw [rng0]
  refine for_nxR (xs := List.range (p.steps.length + 1)) (e := fun i : Nat => D.int (i : Int)) (R := RR m L g2 g12 g13 _) (fun γ => ∃ v8 v9 v10 v11, γ = [some (.ref m), some (.ref L), g2, some PA, some (plD p ss), some (.lst (ss.map Std.law)), some (plD p ss), some (.lst [tabD p, rulD p, wriD p, actD p, steD p]), v8, v9, v10, v11, g12, g13]) ⟨_, _, _, _, rfl⟩ ?_ ?_
  · rintro i hi γ ⟨v8, v9, v10, v11, rfl⟩
    have hlt : i < ss.length := by have := List.mem_range.mp hi; omega
    have hm := List.getElem?_eq_getElem hlt
    refine goes_mono (m_step (n := n + 16) lcl hm (ch.ok _ (List.getElem_mem hlt))) ?_
    rintro γ ⟨a, b, d, rfl⟩
    exact ⟨_, _, _, _, rfl⟩
  · rintro γ ⟨v8, v9, v10, v11, rfl⟩
    have cl := cell_e0 L1 (mDs ms) []
    have sl := set_e0 L1 (mDs ms) (mDs (ms ++ [(p, ss)])) []
    have em : mDs (ms ++ [(p, ss)]) = .lst (ms.map mD ++ [.tup [plD p ss, .lst (parD p)]]) := by simp [mDs, mD]
    have em0 : M = .lst (ms.map mD) := hM.symm
    rw [hM, em0] at cl
    rw [hM, em0, em, hPa] at sl
    rw [em0, em, hPa]
    dsimp! [lst_cell cl, cl, sl, sz, pil, L_il]
    exact ⟨_, _, _, _, _, _, _, _, _, rfl⟩
end Hk01
end
section
set_option maxRecDepth 100000
set_option maxHeartbeats 1000000
namespace Hk01
open PySem MP
def Good1 (q : Prt × List Std) : Prop := POk q.1 ∧ Chain q.1.ws q.1.beg q.1.steps q.2
theorem r_loop {m L n : Nat} {g12 g13 : Option D} : ∀ (r : Nat) (a : Int) {c : List Cell} {ms : List (Prt × List Std)} (g2 g3 g4 g5 g6 g7 g8 g9 g10 g11 : Option D), BagAt c m → Pln c → c.length = L → (∀ q ∈ ms, Good1 q) → ms.length + r ≤ 10 →
    ∃ c1 ms' v2 v3 v4 v5 v6 v7 v8 v9 v10 v11, forL (fun x γ b c => match asgT (.nm 2) x γ with
      | some γ => evSs P (calls P (n + 20)) rbody γ b c
      | none => .bad) 0 (rngD a r) [some (.ref m), some (.ref L), g2, g3, g4, g5, g6, g7, g8, g9, g10, g11, g12, g13] (c ++ [mDs ms]) = .ok (.nx [some (.ref m), some (.ref L), v2, v3, v4, v5, v6, v7, v8, v9, v10, v11, g12, g13]) (c1 ++ [mDs ms']) ∧ Like c m c1 ∧ (∀ q ∈ ms', Good1 q) ∧ ms'.length = ms.length + r
  | 0, a, c, ms, g2, g3, g4, g5, g6, g7, g8, g9, g10, g11, hb, hp, hL, hm, hl => ⟨c, ms, g2, g3, g4, g5, g6, g7, g8, g9, g10, g11, rfl, .refl hb, hm, rfl⟩
  | r + 1, a, c, ms, g2, g3, g4, g5, g6, g7, g8, g9, g10, g11, hb, hp, hL, hm, hl => by
    obtain ⟨p, ss, c1, v3, v4, v5, v6, v7, v8, v9, v10, v11, e1, l1, po, ch⟩ := r_step (n := n) hb hp hL hm (by omega) (g2 := some (.int a)) (g3 := g3) (g4 := g4) (g5 := g5) (g6 := g6) (g7 := g7) (g8 := g8) (g9 := g9) (g10 := g10) (g11 := g11) (g12 := g12) (g13 := g13)
    obtain ⟨c2, ms', w2, w3, w4, w5, w6, w7, w8, w9, w10, w11, ih, l2, k2, n2⟩ := r_loop (g12 := g12) (g13 := g13) (n := n) r (a + 1) (ms := ms ++ [(p, ss)]) (some (.int a)) v3 v4 v5 v6 v7 v8 v9 v10 v11 l1.bag (hp.like l1) (by rw [l1.len, hL]) (fun q hq => by
      rcases List.mem_append.mp hq with z | z
      · exact hm q z
      · rw [List.mem_singleton.mp z]; exact ⟨po, ch⟩) (by simp; omega)
    refine ⟨c2, ms', w2, w3, w4, w5, w6, w7, w8, w9, w10, w11, ?_, l1.trans l2, k2, by rw [n2]; simp; omega⟩
    rw [← ih, rngD, forL]
    show ((evSs P (calls P (n + 20)) rbody [some (.ref m), some (.ref L), some (.int a), g3, g4, g5, g6, g7, g8, g9, g10, g11, g12, g13] 0 (c ++ [mDs ms])).bind _) = _
    rw [e1]
    rfl
theorem compS_none {α : Type} {step : D → Nat → List Cell → Res (Option D)} {L : Nat} {e : α → D} {xs : List α} {c : List Cell} {acc : List D} (hL : c.length = L) (hs : ∀ x ∈ xs, step (e x) 0 (c ++ [.lst (xs.map e)]) = .ok none (c ++ [.lst (xs.map e)])) :
    ∀ (k i : Nat), i + k = xs.length → compS step 0 L k i acc (c ++ [.lst (xs.map e)]) = .ok acc (c ++ [.lst (xs.map e)])
  | 0, i, hi => by
    unfold compS listAt
    rw [cell_e0 hL]
    dsimp only
    rw [if_pos (by rw [List.length_map]; omega)]
  | k + 1, i, hi => by
    have hlt : i < xs.length := by omega
    have at_ : (listAt 0 (c ++ [.lst (xs.map e)]) L).bind (·[i]?) = some (e xs[i]) := by
      unfold listAt
      rw [cell_e0 hL]
      show (xs.map e)[i]? = _
      rw [List.getElem?_map, List.getElem?_eq_getElem hlt]
      rfl
    rw [compS, at_]
    dsimp only
    rw [hs _ (List.getElem_mem hlt), Res.bind_ok]
    exact compS_none hL hs k (i + 1) (by omega)
theorem compS_none_bind {α β : Type} {step : D → Nat → List Cell → Res (Option D)} {L n : Nat} {e : α → D} {xs : List α} {c : List Cell} {k : List D → List Cell → Res β} {r : Res β} (hn : n = xs.length) (hL : c.length = L) (hs : ∀ x ∈ xs, step (e x) 0 (c ++ [.lst (xs.map e)]) = .ok none (c ++ [.lst (xs.map e)]))
    (hk : k [] (c ++ [.lst (xs.map e)]) = r) : (noExc (compW step 0 (.sto L n) [] (c ++ [.lst (xs.map e)]))).bind k = r := by
  have h := compS_none (acc := []) hL hs n 0 (by omega)
  show (noExc (compS step 0 L n 0 [] (c ++ [.lst (xs.map e)]))).bind k = r
  rw [h]
  exact hk
theorem eq_pl {p q : Prt} (hp : layL 6 (parD p) = true) (hq : layL 6 (parD q) = true) (b : Nat) (c : List Cell) : eqSem b c (.lst (parD p)) (.lst (parD q)) = some (eqDs (parD p) (parD q)) := by
  rw [eqSem_lay (lay_lst hp) (lay_lst hq)]; rfl
theorem s_law_right {c : List Cell} {m : Nat} (hb : BagAt c m) (hp : Pln c) (n : Nat) : Dr c m ((calls P (n + 21)).fn "_law_right" [.ref m] 0 c) (· = .bl true) := by
  generalize hL : c.length = L
  obtain ⟨c1, ms, v2, v3, v4, v5, v6, v7, v8, v9, v10, v11, e1, l1, hg, hn⟩ := r_loop (n := n) (g12 := none) (g13 := none) 4 0 (ms := []) none none none none none none none none none none hb hp hL (fun q hq => by cases hq) (by simp)
  have L1 : c1.length = L := by rw [l1.len, hL]
  refine ⟨.bl true, c1, calls_trunc (e := [mDs ms]) (k := 0) f__law_right rfl rfl ?_ l1.len (hp.like l1) rfl, l1, rfl⟩
  dsimp! [c__law_right, nl_t, hL]
  simp only [rb_assoc]
  have em : mDs [] = .lst [] := rfl
  rw [em] at e1
  refine (bind_left _ e1).trans ?_
  have md : mDs ms = .lst (ms.map mD) := rfl
  rw [md]
  obtain ⟨q0, hq0⟩ : ∃ q0, ms[0]? = some q0 := ⟨ms[0]'(by rw [hn]; simp), List.getElem?_eq_getElem _⟩
  have a0 : L2.atI (ms.map mD) 0 = some (mD q0) := at_map (m := 0) hq0
  have g0 := hg q0 (List.mem_of_getElem? hq0)
  have y0 := par_lay g0.1 g0.2
  dsimp! [list_e0 L1]
  simp only [rb_assoc]
  refine compS_none_bind rfl L1 (fun q hq => ?_) ?_
  · have g1 := hg q hq
    have y1 := par_lay g1.1 g1.2
    have ce := cmp_eq (p := q.1) (q := q0.1) (ss := q.2) (ts := q0.2) y1 y0 (n + 18)
    have m1 : isLam (mD q) = false := rfl
    have i0 : ∀ (q : Prt × List Std) b c, ixSem b c (mD q) (.int 0) = some (plD q.1 q.2) := fun q b c => by unfold mD; rw [ix_tup]; exact atI_0 _ _
    have i1 : ∀ (q : Prt × List Std) b c, ixSem b c (mD q) (.int 1) = some (.lst (parD q.1)) := fun q b c => by unfold mD; rw [ix_tup]; exact atI_1 _ _ _
    cases hz : eqDs (parD q.1) (parD q0.1) with
    | true =>
      rw [hz] at ce
      dsimp! [m1, i0, i1, ix_e0 L1, a0, ce, eq_pl y1 y0, hz, eq_bl]
    | false =>
      rw [hz] at ce
      dsimp! [m1, i0, i1, ix_e0 L1, a0, ce, eq_pl y1 y0, hz, eq_bl]
  · dsimp! [eq_nn]
end Hk01
end
section
set_option maxRecDepth 100000
set_option maxHeartbeats 1000000
namespace Hk01
open PySem MP
def ps : Prt := ⟨[("a", some 0), ("b", none)], [], [], [], []⟩
theorem ps_ok : POk ps := by
  refine ⟨fun q hq => ?_, fun q hq => ?_, by decide +kernel, by decide, by decide, (fun q hq => by cases hq), (fun q hq => by cases hq), by simp [ps], by simp [ps], ⟨(fun q hq => by cases hq), (fun q hq => by cases hq), by simp [ps], by simp [ps]⟩, (fun q hq => by cases hq), (fun q hq => by cases hq), by simp [ps], by simp [ps], by simp [ps]⟩
  · simp only [ps, List.mem_cons, List.not_mem_nil, or_false] at hq
    rcases hq with rfl | rfl
    · exact nm_a
    · exact nm_b
  · simp only [ps, List.mem_cons, List.not_mem_nil, or_false] at hq
    rcases hq with rfl | rfl
    · exact ⟨by decide, by decide⟩
    · trivial
theorem ps_beg : SOk ps.beg := ⟨ps_ok.cn, ps_ok.cd, by decide, by decide, (fun q hq => by cases hq), by simp [Prt.beg, beg, ps], (fun q hq => by cases hq), by simp [Prt.beg, beg, ps]⟩
theorem ps_chain : Chain ps.ws ps.beg ps.steps [ps.beg] := .nil _ ps_beg
theorem comp_growE {step : D → Nat → List Cell → Res (Option D)} (hs : ∀ (x : Nat) c, Pln c → ∃ c1, step (.int x) 0 c = .ok (some (.bl true)) c1 ∧ Pln c1) : ∀ {xs : List Nat} {c : List Cell} {acc : List D}, Pln c → acc.length + xs.length ≤ MP.sizeLine → ∃ c1, compL step 0 (xs.map fun i : Nat => D.int (i : Int)) acc c = .ok (acc ++ xs.map fun _ => .bl true) c1
  | [], c, acc, hp, hl => ⟨c, by simp [compL]⟩
  | x :: xs, c, acc, hp, hl => by
    obtain ⟨c1, e1, p1⟩ := hs x c hp
    have hl2 : acc.length + (xs.length + 1) ≤ MP.sizeLine := hl
    obtain ⟨c2, e2⟩ := comp_growE hs (xs := xs) (acc := acc ++ [.bl true]) p1 (by rw [List.length_append]; simp; omega)
    refine ⟨c2, ?_⟩
    rw [List.map_cons, compL, e1, Res.bind_ok]
    dsimp only
    rw [if_pos (by omega), e2]
    simp
theorem comp_grow {β : Type} {step : D → Nat → List Cell → Res (Option D)} {R : Res β → Prop} {k : List D → List Cell → Res β} {xs : List Nat} (hl : xs.length ≤ 100) (hs : ∀ (x : Nat) c, Pln c → ∃ c1, step (.int x) 0 c = .ok (some (.bl true)) c1 ∧ Pln c1) (hk : ∀ c1, R (k (xs.map fun _ => .bl true) c1)) : R ((noExc (compL step 0 (xs.map fun i : Nat => D.int (i : Int)) [] [])).bind k) := by
  obtain ⟨c1, e⟩ := comp_growE hs (xs := xs) (c := []) (acc := []) (fun x hx => by cases hx) (by simp [MP.sizeLine]; omega)
  rw [e]
  exact hk c1
def LR (r : Res D) : Prop := ∃ c, r = .ok (.bl true) c
theorem bs_min (b : Nat) (c : List Cell) (i j : Int) : bltSem .min [.int i, .int j] b c = some (.int (if j < i then j else i)) := rfl
theorem tru_own {p : Prt} {ss : List Std} (h : p.steps = []) (n b : Nat) (c : List Cell) : truX P (calls P (n + 1)) (plD p ss) b c = .ok false c := by
  have o : ((classOf b c (plD p ss)).bind fun cn => P.meth cn "__len__") = some ("Plan.__len__" : Str) := me_len
  have u : truX P (calls P (n + 1)) (plD p ss) b c = (match ((classOf b c (plD p ss)).bind fun cn => P.meth cn "__len__") with
    | some q => (noExc ((calls P (n + 1)) q [plD p ss] b c)).bind truR
    | none => .bad) := rfl
  rw [u, o]
  dsimp only
  rw [s_len, h]
  rfl
theorem all_true (n : Nat) : boolsOf (List.replicate n (.bl true)) = some (List.replicate n true) := by
  induction n with
  | zero => rfl
  | succ n ih => rw [List.replicate_succ, List.replicate_succ, boolsOf, ih]; rfl
theorem s_law (ns : List Int) (hl : ns.length ≤ 63) (n : Nat) : LR ((calls P (n + 22)).fn "law" [.scr ns] 0 []) := by
  rw [calls_keep f_law rfl rfl]
  have mk := mk_Plan ps_ok ps_chain (n + 5)
  have t0 : tabD ps = .tup [.tup [.str "a", .int 0], .tup [.str "b", .non]] := rfl
  have t1 : rulD ps = .tup [] := rfl
  have t2 : wriD ps = .tup [] := rfl
  have t3 : actD ps = .tup [] := rfl
  have t4 : steD ps = .tup [] := rfl
  rw [t0, t1, t2, t3, t4] at mk
  have ln := len_own (p := ps) (ss := [ps.beg]) (by decide) (n + 20)
  have co := s_columns (p := ps) (ss := [ps.beg]) (m := 0) rfl rfl (by decide) (n + 17)
  have hh : ps.beg.heads.map D.str = [.str "a", .str "b"] := rfl
  rw [hh] at co
  have lp := par_lay ps_ok ps_chain
  have ne := cmp_ne (ss := [ps.beg]) (ts := [ps.beg]) lp lp (n + 19)
  have rf : eqDs (parD ps) (parD ps) = true := eqDs_refl lp
  rw [rf] at ne
  have tr := tru_own (p := ps) (ss := [ps.beg]) rfl (n + 20)
  have l0 : (ps.steps.length : Int) = 0 := rfl
  rw [l0] at ln
  have c0 : ((0 : Nat) : Int) = 0 := rfl
  rw [c0] at co
  have ly : lay 2 (.lst [.tup [], .tup [], .tup [], .tup [], .int 0, .tup [.str "a", .str "b"]]) = true := by decide +kernel
  have e0 : ∀ b c, eqSem b c (.lst [.tup [], .tup [], .tup [], .tup [], .int 0, .tup [.str "a", .str "b"]]) (.lst [.tup [], .tup [], .tup [], .tup [], .int 0, .tup [.str "a", .str "b"]]) = some true := fun b c => by
    rw [eqSem_lay ly ly]; congr 1
  have me : ∀ n b c, mkSem P (calls P (n + 21)) "Plan" [.tup [.tup [.str "a", .int 0], .tup [.str "b", .non]], .tup [], .tup [], .tup [], .tup []] b c = .ok (plD ps [ps.beg]) c := fun n b c => mk_Plan ps_ok ps_chain (n + 5) b c
  dsimp! [c_law, mk, L_il, L_cls, pp_rules, pf_rules, L_rules, pp_writers, pf_writers, L_writers, pp_active, pf_active, L_active, pp_steps, pf_steps, L_steps, t1, t2, t3, t4, ln, me_columns, L_ncolumns, co, e0, tr, ne, bs_min, bs_max]
  have hr : ∃ r : Nat, r ≤ 5 ∧ (if (2 : Int) < (if (5 : Int) < (ns.length : Int) then 5 else (ns.length : Int)) then (if (5 : Int) < (ns.length : Int) then 5 else (ns.length : Int)) else 2) = (r : Int) := by
    by_cases h1 : (5 : Int) < (ns.length : Int)
    · exact ⟨5, Nat.le_refl _, by rw [if_pos h1]; rfl⟩
    · rw [if_neg h1]
      by_cases h2 : (2 : Int) < (ns.length : Int)
      · exact ⟨ns.length, by omega, by rw [if_pos h2]⟩
      · exact ⟨2, by omega, by rw [if_neg h2]; rfl⟩
  obtain ⟨r, r5, hr⟩ := hr
  rw [hr]
  have sm := small_of (k := r) (by omega)
  try dsimp only
  rw [if_pos sm]
  simp only [Res.bind_ok, cw_xs, rb_assoc]
  rw [rng0]
  refine comp_grow (xs := List.range r) (by simp; omega) ?_ ?_
  · intro x c hp
    obtain ⟨y, e1, ba, hy⟩ := s_bag ns x (n + 20) c
    obtain ⟨d, c1, e2, l2, hd⟩ := s_law_right ba (hp.app hy) n
    subst hd
    refine ⟨c1, ?_, (hp.app hy).like l2⟩
    dsimp! [e1, e2]
  · intro c1
    have r6 : r ≤ 16777216 := by omega
    have at1 : boolsOf ((List.range r).map fun _ => D.bl true) = some (List.replicate r true) := by
      have e : (List.range r).map (fun _ => D.bl true) = List.replicate r (.bl true) := by rw [List.map_const', List.length_range]
      rw [e]
      exact all_true r
    dsimp! [bs_all, r6]
    rw [at1]
    exact ⟨c1, by show fin (.rt (.bl ((List.replicate r true).all id))) c1 = _; have e : (List.replicate r true).all id = true := by simp
                  rw [e]; rfl⟩
end Hk01
theorem k01_plain (ns : List Int) (hl : ns.length ≤ 63) : ∃ c, (MP.calls Hk01.spec.P 60).fn "law" [.scr ns] 0 [] = .ok (.bl true) c := Hk01.s_law ns hl 38
end
end
theorem PySem.Challenge.cw_lookbacks_k01_plans_made_holds : PySem.Challenge.rw_lookbacks_k01_plans_made.Holds := by
  exact k01_of fun ns hl _ => k01_plain ns hl
