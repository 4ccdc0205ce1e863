import PyProof.Rows.All
import Wide.All
import OpenK.AllK
import Wide.FinOn
import KE.KStateDown
import HandS.Head0
import HandS.Head1
import HandS.Head2
import HandS.Base
import HandS.Call
import HandS.Ends
import HandS.EndBits
import HandS.Defaults
import HandS.HeadEnd
import HandS.HeadHook1
import HandS.HeadHook2
import HandS.HeadHook4
import HandS.Codes
import HandS.Style
import HandS.Exc
import HandS.ExcOwn
import HandS.TryMany
import HandS.ExcInit
import HandS.ExcField
import HandS.Iter
import HandS.Zip
import HandS.ForMost
import HandS.TryOnly
import HandS.WordsExc
import HandS.Deep
import HandS.TupAny
import HandS.TupMul
import HandS.Conv
import HandS.IsInst
import HandS.CallSlots
import HandS.Wide
import KE.KDictKeyed
import KE.SortData
import HandS.More
import HandS.RaiseMore
import KE.KTupSum
import PyProof.Rows.BitMore
import KE.BitLaws
import PySem.Challenge.RW_noticeways_k08_texts_of_notices
set_option Elab.async false
set_option linter.all false
set_option maxRecDepth 100000
set_option maxHeartbeats 4000000
section
/- The core language: values, stores, syntax, evaluator. -/
namespace NW
open PySem

/-- a value: immutable data by value; a mutable object by its place in the store -/
inductive D where
  | non | bl (b : Bool) | int (i : Int) | str (x : Str)
  | tup (ds : List D) | lst (ds : List D)
  | loc (n : Nat) | fn (f : Nat) | scr (ns : List Int)
  deriving Inhabited

mutual
def D.py : D → PyData
  | .non => .none
  | .bl b => .bool b
  | .int i => .int i
  | .str x => .str x
  | .tup ds => .tuple (D.pyL ds)
  | .lst ds => .list (D.pyL ds)
  | .loc _ => .none
  | .fn _ => .none
  | .scr _ => .none
def D.pyL : List D → List PyData
  | [] => []
  | d :: ds => d.py :: D.pyL ds
end
mutual
/-- plain data that == may be asked of -/
def D.ok : D → Bool
  | .non => true
  | .bl _ => true
  | .int _ => true
  | .str x => PyData.strOk x
  | .tup ds => D.okL ds
  | .lst ds => D.okL ds
  | .loc _ => false
  | .fn _ => false
  | .scr _ => false
def D.okL : List D → Bool
  | [] => true
  | d :: ds => d.ok && D.okL ds
end
mutual
def D.depth : D → Nat
  | .tup ds => D.depthL ds + 1
  | .lst ds => D.depthL ds + 1
  | .non => 0
  | .bl _ => 0
  | .int _ => 0
  | .str _ => 0
  | .loc _ => 0
  | .fn _ => 0
  | .scr _ => 0
def D.depthL : List D → Nat
  | [] => 0
  | d :: ds => max d.depth (D.depthL ds)
end
mutual
/-- Python's == -/
def D.eqv : D → D → Bool
  | .non, .non => true
  | .bl a, .bl b => a == b
  | .bl a, .int j => (if a then 1 else 0) == j
  | .int i, .bl b => i == (if b then 1 else 0)
  | .int i, .int j => i == j
  | .str x, .str y => x == y
  | .lst xs, .lst ys => D.eqvL xs ys
  | .tup xs, .tup ys => D.eqvL xs ys
  | _, _ => false
def D.eqvL : List D → List D → Bool
  | [], [] => true
  | x :: xs, y :: ys => D.eqv x y && D.eqvL xs ys
  | _, _ => false
end
mutual
/-- the very same -/
def D.same : D → D → Bool
  | .non, .non => true
  | .bl a, .bl b => a == b
  | .int i, .int j => i == j
  | .str x, .str y => x == y
  | .lst xs, .lst ys => D.sameL xs ys
  | .tup xs, .tup ys => D.sameL xs ys
  | .loc n, .loc m => n == m
  | .fn n, .fn m => n == m
  | .scr x, .scr y => x == y
  | _, _ => false
def D.sameL : List D → List D → Bool
  | [], [] => true
  | x :: xs, y :: ys => D.same x y && D.sameL xs ys
  | _, _ => false
end
mutual
/-- all places in it lie below n -/
def D.under (n : Nat) : D → Bool
  | .loc m => decide (m < n)
  | .tup ds => D.underL n ds
  | .lst ds => D.underL n ds
  | .non => true
  | .bl _ => true
  | .int _ => true
  | .str _ => true
  | .fn _ => true
  | .scr _ => true
def D.underL (n : Nat) : List D → Bool
  | [] => true
  | d :: ds => D.under n d && D.underL n ds
end

/-- an exception of one of the program's classes: the class, its own fields -/
structure Xc where
  cls : Nat
  fs : List (Str × D)

/-- a mutable object -/
inductive Ob where
  | lst (ds : List D)
  | dct (kvs : List (D × D))
  /-- a dict whose keys are texts; whether it is locked by a walk -/
  | dks (fz : Bool) (kvs : List (Str × D))
  deriving Inhabited
def Ob.same : Ob → Ob → Bool
  | .lst xs, .lst ys => D.sameL xs ys
  | .dct xs, .dct ys => D.sameL (xs.map (·.1)) (ys.map (·.1)) && D.sameL (xs.map (·.2)) (ys.map (·.2))
  | .dks f xs, .dks g ys => f == g && (decide (xs.map (·.1) = ys.map (·.1)) && D.sameL (xs.map (·.2)) (ys.map (·.2)))
  | _, _ => false
def Ob.under (n : Nat) : Ob → Bool
  | .lst xs => D.underL n xs
  | .dct xs => D.underL n (xs.map (·.1)) && D.underL n (xs.map (·.2))
  | .dks _ xs => D.underL n (xs.map (·.2))

abbrev Env := List (Option D)
abbrev Store := List Ob

inductive R (α : Type) where
  | ok (a : α) (S : Store) | exc (x : Xc) (S : Store) | bad
def R.bind {α β : Type} (r : R α) (f : α → Store → R β) : R β :=
  match r with
  | .ok a S => f a S
  | .exc x S => .exc x S
  | .bad => .bad
def R.opt {α : Type} (o : Option α) (S : Store) : R α :=
  match o with
  | some a => .ok a S
  | none => .bad

/-! ### operations by values -/
/-- what a list holds, by value or by its place -/
def listOf (S : Store) : D → Option (List D)
  | .lst ds => some ds
  | .loc n => match S[n]? with
    | some (.lst ds) => some ds
    | _ => none
  | _ => none
/-- .. a list or a tuple -/
def seqOf (S : Store) : D → Option (List D)
  | .tup ds => some ds
  | .scr ns => some (ns.map .int)
  | d => listOf S d
/-- a mutable list seen as it stands now -/
def flat (S : Store) : D → D
  | .loc n => match S[n]? with
    | some (.lst ds) => .lst ds
    | _ => .loc n
  | d => d
/-! ### dicts whose keys are tuples -/
mutual
def D.nk : D → Option NestedKey
  | .non => some .none
  | .bl b => some (.num (if b then 1 else 0))
  | .int i => some (.num i)
  | .str x => some (.text x)
  | .tup ds => (D.nkL ds).map .tup
  | .lst _ => none
  | .loc _ => none
  | .fn _ => none
  | .scr _ => none
def D.nkL : List D → Option (List NestedKey)
  | [] => some []
  | d :: ds => (D.nk d).bind fun k => (D.nkL ds).map fun ks => k :: ks
end
def keyOk : D → Bool
  | .tup ds => (D.nk (.tup ds)).isSome && decide ((D.tup ds).depth ≤ 8)
  | _ => false
def dfind (kvs : List (D × D)) (k : D) : Option D := (kvs.find? fun p => D.eqv p.1 k).map (·.2)
def dput (kvs : List (D × D)) (k d : D) : List (D × D) := if (dfind kvs k).isSome then kvs.map fun p => if D.eqv p.1 k then (p.1, d) else p else kvs ++ [(k, d)]
def dctOf (S : Store) : D → Option (List (D × D))
  | .loc n => match S[n]? with
    | some (.dct kvs) => some kvs
    | _ => none
  | _ => none
/-! ### dicts whose keys are texts -/
def sfind (kvs : List (Str × D)) (x : Str) : Option D := (kvs.find? fun p => decide (p.1 = x)).map (·.2)
def sput (kvs : List (Str × D)) (x : Str) (d : D) : List (Str × D) := if (sfind kvs x).isSome then kvs.map fun p => if p.1 = x then (p.1, d) else p else kvs ++ [(x, d)]
def dksOf (S : Store) : D → Option (List (Str × D))
  | .loc n => match S[n]? with
    | some (.dks _ kvs) => some kvs
    | _ => none
  | _ => none
def inDks (S : Store) (a b : D) : Option Bool :=
  match dksOf S b, a with
  | some kvs, .str x => some (sfind kvs x).isSome
  | _, _ => none

def lineN : Nat := 16777216
def mulOk (i j : Int) : Bool := decide (-(2 ^ 64) < i ∧ i < 2 ^ 64) || (decide (-(2 ^ 64) < j ∧ j < 2 ^ 64) || decide (i.natAbs.log2 + j.natAbs.log2 < 1000000))
def divOk (j : Int) : Bool := decide (0 < j) && (decide (j < 1073741824) || decide (j.natAbs.log2 < 9000))
def powOk (i j : Int) : Bool := decide (0 ≤ j ∧ j ≤ 1000000 ∧ i.natAbs < 2 ^ 64)
def binInt : Operator → Int → Int → Option Int
  | .Add, i, j => some (i + j)
  | .Sub, i, j => some (i - j)
  | .Mult, i, j => if mulOk i j then some (i * j) else none
  | .FloorDiv, i, j => if divOk j then some (i / j) else none
  | .Mod, i, j => if 0 < j then some (i % j) else none
  | .Pow, i, j => if powOk i j then some (i ^ j.toNat) else none
  | .LShift, i, j => if powOk i j then some (i * 2 ^ j.toNat) else none
  | .RShift, i, j => if 0 ≤ j then some (i / 2 ^ j.toNat) else none
  | .BitAnd, i, j => some (Builtin.bitAnd i j)
  | .BitOr, i, j => some (Builtin.bitOr i j)
  | .BitXor, i, j => some (Builtin.bitXor i j)
  | _, _, _ => none
def binTup : Operator → List D → List D → Option D
  | .Add, xs, ys => if xs.length + ys.length ≤ lineN then some (.tup (xs ++ ys)) else none
  | _, _, _ => none
def binLst : Operator → List D → List D → Option D
  | .Add, xs, ys => if xs.length + ys.length ≤ lineN then some (.lst (xs ++ ys)) else none
  | _, _, _ => none
def repTup (xs : List D) (k : Int) : Option D :=
  if xs ≠ [] ∧ 2 ≤ k ∧ k ≤ 1000 ∧ xs.length ≤ 1000 then some (.tup (List.replicate k.toNat xs).flatten) else none
def repLst (xs : List D) (k : Int) : Option D :=
  if 0 ≤ k ∧ k ≤ 16777216 ∧ xs.length * k.toNat ≤ lineN then some (.lst (List.replicate k.toNat xs).flatten) else none
def binOp (op : Operator) (S : Store) (a b : D) : Option D :=
  match a, b with
  | .int i, .int j => (binInt op i j).map .int
  | .tup xs, .tup ys => binTup op xs ys
  | .tup xs, .int k => if op = .Mult then repTup xs k else none
  | .str x, .str y => if op = .Add ∧ x.length + y.length ≤ lineN then some (.str (x ++ y)) else none
  | a, .int k => if op = .Mult then (listOf S a).bind fun xs => repLst xs k else none
  | a, b => (listOf S a).bind fun xs => (listOf S b).bind fun ys => binLst op xs ys

def eqOk (a b : D) : Bool := a.ok && b.ok && decide (min a.depth b.depth ≤ 100)
def inOk (a : D) (ds : List D) : Bool := a.ok && D.okL ds && decide (min (D.depthL ds) a.depth ≤ 100)
def cmpInt : CmpOp → Int → Int → Option Bool
  | .Lt, i, j => some (decide (i < j))
  | .LtE, i, j => some (decide (i ≤ j))
  | .Gt, i, j => some (decide (j < i))
  | .GtE, i, j => some (decide (j ≤ i))
  | _, _, _ => none
def ordOp (op : CmpOp) (a b : D) : Option Bool :=
  match a, b with
  | .int i, .int j => cmpInt op i j
  | _, _ => none
def isNone : D → Bool
  | .non => true
  | _ => false
def isBl : D → Option Bool
  | .bl b => some b
  | _ => none
def cmpOp (op : CmpOp) (S : Store) (a b : D) : Option Bool :=
  match op with
  | .Eq => if eqOk (flat S a) (flat S b) then some (D.eqv (flat S a) (flat S b)) else none
  | .NotEq => if eqOk (flat S a) (flat S b) then some (!D.eqv (flat S a) (flat S b)) else none
  | .In => match dctOf S b with
    | some kvs => if keyOk a then some (dfind kvs a).isSome else none
    | none => match inDks S a b with
      | some t => some t
      | none => (seqOf S b).bind fun ds => if inOk (flat S a) ds then some (ds.any fun z => D.eqv z (flat S a)) else none
  | .NotIn => match dctOf S b with
    | some kvs => if keyOk a then some (!(dfind kvs a).isSome) else none
    | none => match inDks S a b with
      | some t => some (!t)
      | none => (seqOf S b).bind fun ds => if inOk (flat S a) ds then some (!ds.any fun z => D.eqv z (flat S a)) else none
  | .Is => match b with
    | .non => some (isNone a)
    | .bl y => (isBl a).map fun x => decide (x = y)
    | _ => none
  | .IsNot => match b with
    | .non => some (!isNone a)
    | .bl y => (isBl a).map fun x => !decide (x = y)
    | _ => none
  | op => ordOp op a b

/-- the classes that isinstance is asked of here -/
inductive Ty where
  | int | bool | str | tuple | list
  deriving DecidableEq
def isi (S : Store) (d : D) (t : Ty) : Option Bool :=
  match flat S d with
  | .non => some false
  | .bl _ => some (decide (t = .bool) || decide (t = .int))
  | .int _ => some (decide (t = .int))
  | .str _ => some (decide (t = .str))
  | .tup _ => some (decide (t = .tuple))
  | .lst _ => some (decide (t = .list))
  | _ => none

/-- the place of an index -/
def ixAt (n : Nat) (i : Int) : Option Nat := if 0 ≤ i then (if i < n then some i.toNat else none) else if -(n : Int) ≤ i then some (i + n).toNat else none
def atD (ds : List D) (i : Int) : Option D := (ixAt ds.length i).bind fun j => ds[j]?
def slIx (n d : Nat) : Option Int → Nat
  | none => d
  | some v => if v < 0 then (v + (n : Int)).toNat else min v.toNat n
def cutD {α : Type} (xs : List α) (lo hi : Option Int) : List α := (xs.drop (slIx xs.length 0 lo)).take (slIx xs.length xs.length hi - slIx xs.length 0 lo)
def idxOp (S : Store) (a i : D) : Option D :=
  match i with
  | .int k => (seqOf S a).bind fun ds => atD ds k
  | .tup ks => (dctOf S a).bind fun kvs => if keyOk (.tup ks) then dfind kvs (.tup ks) else none
  | .str x => (dksOf S a).bind fun kvs => sfind kvs x
  | _ => none
def slOp (S : Store) (a : D) (l h : Option Int) : Option D :=
  match a with
  | .tup ds => some (.tup (cutD ds l h))
  | .str x => if x.length ≤ lineN then some (.str (L2.cutS x l h)) else none
  | a => (listOf S a).map fun ds => .lst (cutD ds l h)
def partOf : D → Option Int
  | .int i => some i
  | _ => none

inductive Bf where
  | len | abs | int | list | tuple | all | sum | min | max | sorted | str
  deriving DecidableEq
def allBl : List D → Option (List Bool)
  | [] => some []
  | .bl b :: r => (allBl r).map fun bs => b :: bs
  | _ => none
def allInt : List D → Option (List Int)
  | [] => some []
  | .int i :: r => (allInt r).map fun is => i :: is
  | _ => none
/-- data that are sorted: tuples, not empty, alike place by place -/
def sortOk (ds : List D) : Bool := ds.all (fun d => match d with
  | .tup (_ :: _) => d.ok && (decide (d.depth ≤ 90) && (ds.all fun e => PySem.W.alike d.py e.py))
  | _ => false) && decide (ds.length ≤ lineN)
def sortD (ds : List D) : List D := ds.mergeSort (PySem.W.dataLe false D.py)
/-- texts in their order -/
def leS (x y : Str) : Bool := !Spec.ltCps y.cps.toList x.cps.toList
def sortS (xs : List Str) : List Str := xs.mergeSort leS
def allStr : List D → Option (List Str)
  | [] => some []
  | .str x :: r => (allStr r).map fun xs => x :: xs
  | _ => none
def strOf : D → Option Str
  | .str x => some x
  | _ => none
def splitD (x : Str) (b : D) : Option D := (strOf b).bind fun y => if (y.length == 0) = false ∧ x.length + 2 ≤ lineN then some (.lst ((Txt.split x y).map .str)) else none
def joinD (S : Store) (x : Str) (b : D) : Option D := (listOf S b).bind fun ds => (allStr ds).bind fun ys => if (ys.map (·.length)).sum + ys.length * x.length ≤ 16777216 then some (.str (Txt.join x ys)) else none
def callB (f : Bf) (S : Store) (ds : List D) : Option D :=
  match f, ds with
  | .len, [.str x] => if x.length ≤ lineN then some (.int x.length) else none
  | .len, [d] => match dksOf S d with
    | some kvs => some (.int kvs.length)
    | none => (seqOf S d).map fun ds => .int ds.length
  | .abs, [.int i] => some (.int (if i < 0 then -i else i))
  | .int, [.int i] => some (.int i)
  | .int, [.bl b] => some (.int (if b then 1 else 0))
  | .int, [.str x] => if x.length ≤ 640 then (PySem.intText? x).map .int else none
  | .str, [.str x] => some (.str x)
  | .str, [.int i] => if i.natAbs.log2 < 1920 then some (.str (Str.ofString (toString i))) else none
  | .list, [d] => (seqOf S d).map fun ds => .lst ds
  | .tuple, [d] => (seqOf S d).map fun ds => .tup ds
  | .all, [d] => (listOf S d).bind fun ds => (allBl ds).map fun bs => .bl (bs.all id)
  | .min, [.int i, .int j] => some (.int (if j < i then j else i))
  | .max, [.int i, .int j] => some (.int (if j > i then j else i))
  | .sum, [.tup ds] => (allInt ds).map fun is => .int is.sum
  | .sum, [d] => (listOf S d).bind fun ds => (allInt ds).map fun is => .int is.sum
  | .sorted, [d] => match dksOf S d with
    | some kvs => if kvs.length < 64 then some (.lst ((sortS (kvs.map (·.1))).map .str)) else none
    | none => (listOf S d).bind fun ds => if sortOk ds then some (.lst (sortD ds)) else none
  | .min, [d] => (listOf S d).bind fun ds => (allInt ds).bind fun is => is.min?.map .int
  | .max, [d] => (listOf S d).bind fun ds => (allInt ds).bind fun is => is.max?.map .int
  | _, _ => none

/-! ### syntax -/
/-- a target: a name, names of a tuple -/
inductive Tg where
  | name (i : Nat)
  | tup (is : List Nat)
mutual
inductive E where
  | var (i : Nat) | non | bl (b : Bool) | int (i : Int) | str (x : Str) | cst (x : Str) (d : D)
  | bin (op : Operator) (a b : E) | neg (a : E)
  | cmp (op : CmpOp) (a b : E) | chn (op op' : CmpOp) (a b c : E)
  | and (es : Es) | or (es : Es) | not (a : E) | ite (c a b : E)
  | tup (es : Es) | lst (es : Es) | nlst (es : Es)
  | idx (a i : E) | sl (a : E) (lo hi : Oe)
  | call (f : Nat) (es : Es) | cb (f : Bf) (es : Es) | isi (a : E) (t : Ty)
  | comp (elt : E) (own : List Nat) (tg : Tg) (it : It) (c : Oe)
  | dnew
  | fnv (f : Nat)
  | lcall (i : Nat) (es : Es)
  | pick (ks : List Str) (es : Es) (k : E)
  | dnewS
  | split (a b : E) | join (a b : E)
inductive Es where
  | nil | cons (e : E) (es : Es)
inductive Oe where
  | none | some (e : E)
inductive It where
  | e (a : E) | rng (a : E) | rng2 (a b : E) | enum (a : E) | zip (a b : E)
end
/-- a constant that a handler returns or stores -/
inductive Kc where
  | bl (b : Bool) | str (x : Str) | int (i : Int) | non
def Kc.d : Kc → D
  | .bl b => .bl b
  | .str x => .str x
  | .int i => .int i
  | .non => .non
/-- what a handler does -/
inductive Hb where
  | ret (c : Kc) | set (i : Nat) (c : Kc)
/-- what a handler that names the error does with the field it reads -/
inductive Ha where
  | ret (f : Str) | set (i : Nat) (f : Str)
mutual
inductive S where
  | set (i : Nat) (e : E) | setT (is : List Nat) (e : E) | par (is : List Nat) (es : Es)
  | setI (o i e : E) | ret (e : E) | exp (e : E) | app (o e : E)
  | ife (c : E) (a b : Ss) | whl (c : E) (b : Ss) | for_ (tg : Tg) (it : It) (b : Ss) | brk
  | raise (c : Nat) (m : Str) | try_ (b : Ss) (hs : List (Nat × Hb))
  | raiseE (c : Nat) (f : Str) (e : E) | tryAs (b : Ss) (c j : Nat) (h : Ha)
  | forK (tg : Tg) (i : Nat) (b : Ss)
inductive Ss where
  | nil | cons (s : S) (ss : Ss)
end

/-- a look into a dict that is written where it is asked: keys are texts -/
def pickOk (ks : List Str) (n : Nat) : Bool := decide (ks.length = n ∧ 1 ≤ ks.length ∧ ks.length ≤ 15 ∧ ks.Nodup)
def pickD (ks : List Str) (ds : List D) : D → Option D
  | .str x => (ks.zip ds).lookup x
  | _ => none
/-- the def that a name holds -/
def fnOf (G : List (Option D)) (i : Nat) : Option Nat := match G[i]? with
  | some (some (.fn f)) => some f
  | _ => none
/-! ### the evaluator -/
/-- how a statement ends -/
inductive Fl where
  | nx | ret (d : D) | brk
inductive SR where
  | fl (f : Fl) (G : Env) (S : Store) | exc (x : Xc) (G : Env) (S : Store) | bad
def setV (G : Env) (i : Nat) (d : D) : Env := G.set i (some d)
def setVs : Env → List Nat → List D → Option Env
  | G, [], [] => some G
  | G, i :: is, d :: ds => setVs (setV G i d) is ds
  | _, _, _ => none
def setTg (G : Env) : Tg → D → Option Env
  | .name i, d => some (setV G i d)
  | .tup is, .tup ds => setVs G is ds
  | _, _ => none
def wipeE : Env → List Nat → Env
  | G, [] => G
  | G, v :: vs => (wipeE G vs).set v none

abbrev Calls := Nat → List D → Store → R D
abbrev ME := Env → Store → R D
/-- what a for or a comprehension walks: the items; a place whose list must stay as it is -/
structure Src where
  items : List D
  at_ : Option Nat := none
def Src.stays (s : Src) (S : Store) : Bool :=
  match s.at_ with
  | none => true
  | some n => match S[n]? with
    | some (.lst ds) => D.sameL ds s.items
    | _ => false
def srcOf (S : Store) : D → Option Src
  | .tup ds => some ⟨ds, none⟩
  | .lst ds => some ⟨ds, none⟩
  | .loc n => match S[n]? with
    | some (.lst ds) => some ⟨ds, some n⟩
    | _ => none
  | _ => none
/-- enumerate(a list by value): new pairs -/
def enumD (ds : List D) : List D := ds.zipIdx.map fun p => .tup [.int (p.2 : Nat), p.1]
def enumSrc (_S : Store) : D → Option Src
  | .lst ds => some ⟨enumD ds, none⟩
  | _ => none
/-- zip(two lists or two tuples by value) -/
def zipD (xs ys : List D) : List D := (xs.zip ys).map fun p => .tup [p.1, p.2]
def zipSrc (_S : Store) : D → D → Option Src
  | .lst xs, .lst ys => some ⟨zipD xs ys, none⟩
  | .tup xs, .tup ys => some ⟨zipD xs ys, none⟩
  | _, _ => none
def rngOk (i j : Int) : Bool := decide (-(2 ^ 62) ≤ i ∧ i < 2 ^ 62 ∧ -(2 ^ 62) ≤ j ∧ j < 2 ^ 62)
def rngD (lo : Int) (n : Nat) : List D := (List.range n).map fun (i : Nat) => D.int (lo + (i : Int))

def rngSrc (a b : D) : Option Src :=
  match a, b with
  | .int i, .int j => if rngOk i j then some ⟨rngD i (j - i).toNat, none⟩ else none
  | _, _ => none
def negD : D → Option D
  | .int i => some (.int (-i))
  | _ => none
def tst (r : R D) (f : Bool → Store → R D) : R D := r.bind fun d S => match d with
  | .bl b => f b S
  | _ => .bad
/-- the turns of a comprehension -/
def noEx {α : Type} (r : R D) (f : D → Store → R α) : R α :=
  match r with
  | .ok d S => f d S
  | _ => .bad
def compTurn (c : Option ME) (elt : ME) (G : Env) (S : Store) (yes : D → Store → R D) (no : Store → R D) : R D :=
  match c with
  | none => noEx (elt G S) yes
  | some c' => noEx (c' G S) fun t S1 => match t with
    | .bl true => noEx (elt G S1) yes
    | .bl false => no S1
    | _ => .bad
def compGo (tg : Tg) (c : Option ME) (elt : ME) (src : Src) (G : Env) : List D → List D → Store → R D
  | [], acc, S => if src.stays S then .ok (.lst acc) S else .bad
  | x :: xs, acc, S => if src.stays S && decide (acc.length < lineN) then
      match setTg G tg x with
      | none => .bad
      | some G2 => compTurn c elt G2 S (fun d S2 => compGo tg c elt src G xs (acc ++ [d]) S2) (fun S1 => compGo tg c elt src G xs acc S1)
    else .bad

mutual
def evE (C : Calls) : E → Env → Store → R D
  | .var i, G, S => R.opt ((G[i]?).bind id) S
  | .non, _, S => .ok .non S
  | .bl b, _, S => .ok (.bl b) S
  | .int i, _, S => .ok (.int i) S
  | .str x, _, S => .ok (.str x) S
  | .cst _ d, _, S => .ok d S
  | .bin op a b, G, S => (evE C a G S).bind fun x S1 => (evE C b G S1).bind fun y S2 => R.opt (binOp op S2 x y) S2
  | .neg a, G, S => (evE C a G S).bind fun x S1 => R.opt (negD x) S1
  | .cmp op a b, G, S => (evE C a G S).bind fun x S1 => (evE C b G S1).bind fun y S2 => R.opt ((cmpOp op S2 x y).map .bl) S2
  | .chn op op' a b c, G, S => (evE C a G S).bind fun x S1 => (evE C b G S1).bind fun y S2 => (R.opt (cmpOp op S2 x y) S2).bind fun t S2' => cond t ((evE C c G S2').bind fun z S3 => R.opt ((cmpOp op' S3 y z).map .bl) S3) (.ok (.bl false) S2')
  | .and es, G, S => evAnd C es G S
  | .or es, G, S => evOr C es G S
  | .not a, G, S => tst (evE C a G S) fun b S1 => .ok (.bl (!b)) S1
  | .ite c a b, G, S => tst (evE C c G S) fun t S1 => cond t (evE C a G S1) (evE C b G S1)
  | .tup es, G, S => (evEs C es G S).bind fun ds S1 => if ds.length ≤ lineN then .ok (.tup ds) S1 else .bad
  | .lst es, G, S => (evEs C es G S).bind fun ds S1 => if ds.length ≤ lineN then .ok (.lst ds) S1 else .bad
  | .nlst es, G, S => (evEs C es G S).bind fun ds S1 => if ds.length ≤ lineN then .ok (.loc S1.length) (S1 ++ [.lst ds]) else .bad
  | .idx a i, G, S => (evE C a G S).bind fun x S1 => (evE C i G S1).bind fun y S2 => R.opt (idxOp S2 x y) S2
  | .sl a lo hi, G, S => (evE C a G S).bind fun x S1 => (evO C lo G S1).bind fun l S2 => (evO C hi G S2).bind fun h S3 => R.opt (slOp S3 x l h) S3
  | .call f es, G, S => (evEs C es G S).bind fun ds S1 => C f ds S1
  | .cb f es, G, S => (evEs C es G S).bind fun ds S1 => R.opt (callB f S1 ds) S1
  | .isi a t, G, S => (evE C a G S).bind fun x S1 => R.opt ((isi S1 x t).map .bl) S1
  | .comp elt own tg it c, G, S => (evI C it G S).bind fun src S1 => compGo tg (evC C c) (evE C elt) src (wipeE G own) src.items [] S1
  | .dnew, _, S => .ok (.loc S.length) (S ++ [.dct []])
  | .fnv f, _, S => .ok (.fn f) S
  | .lcall i es, G, S => (R.opt (fnOf G i) S).bind fun f S0 => (evEs C es G S0).bind fun ds S1 => C f ds S1
  | .pick ks es k, G, S => (evEs C es G S).bind fun ds S1 => if pickOk ks ds.length then (evE C k G S1).bind fun d S2 => R.opt (pickD ks ds d) S2 else .bad
  | .dnewS, _, S => .ok (.loc S.length) (S ++ [.dks false []])
  | .split a b, G, S => (evE C a G S).bind fun x S1 => (R.opt (strOf x) S1).bind fun z S1' => (evE C b G S1').bind fun y S2 => R.opt (splitD z y) S2
  | .join a b, G, S => (evE C a G S).bind fun x S1 => (R.opt (strOf x) S1).bind fun z S1' => (evE C b G S1').bind fun y S2 => R.opt (joinD S2 z y) S2
def evEs (C : Calls) : Es → Env → Store → R (List D)
  | .nil, _, S => .ok [] S
  | .cons e es, G, S => (evE C e G S).bind fun d S1 => (evEs C es G S1).bind fun ds S2 => .ok (d :: ds) S2
def evAnd (C : Calls) : Es → Env → Store → R D
  | .nil, _, _ => .bad
  | .cons e .nil, G, S => evE C e G S
  | .cons e es, G, S => tst (evE C e G S) fun b S1 => cond b (evAnd C es G S1) (.ok (.bl false) S1)
def evOr (C : Calls) : Es → Env → Store → R D
  | .nil, _, _ => .bad
  | .cons e .nil, G, S => evE C e G S
  | .cons e es, G, S => tst (evE C e G S) fun b S1 => cond b (.ok (.bl true) S1) (evOr C es G S1)
def evO (C : Calls) : Oe → Env → Store → R (Option Int)
  | .none, _, S => .ok none S
  | .some e, G, S => (evE C e G S).bind fun d S1 => (R.opt (partOf d) S1).bind fun i S1' => .ok (some i) S1'
def evC (C : Calls) : Oe → Option ME
  | .none => none
  | .some e => some (evE C e)
def evI (C : Calls) : It → Env → Store → R Src
  | .e a, G, S => (evE C a G S).bind fun d S1 => R.opt (srcOf S1 d) S1
  | .rng a, G, S => (evE C a G S).bind fun d S1 => R.opt (rngSrc (.int 0) d) S1
  | .rng2 a b, G, S => (evE C a G S).bind fun d S1 => (evE C b G S1).bind fun d2 S2 => R.opt (rngSrc d d2) S2
  | .enum a, G, S => (evE C a G S).bind fun d S1 => R.opt (enumSrc S1 d) S1
  | .zip a b, G, S => (evE C a G S).bind fun d S1 => (evE C b G S1).bind fun d2 S2 => R.opt (zipSrc S2 d d2) S2
end
abbrev MS := Env → Store → SR
def R.toS {α : Type} (r : R α) (G : Env) (f : α → Store → SR) : SR :=
  match r with
  | .ok d S => f d S
  | .exc x S => .exc x G S
  | .bad => .bad
/-- a while: at most so many turns -/
def whlGo (c : ME) (b : MS) : Nat → MS
  | 0, _, _ => .bad
  | n + 1, G, S => (c G S).toS G fun d S1 => match d with
    | .bl true => (match b G S1 with
      | .fl .nx G2 S2 => whlGo c b n G2 S2
      | .fl .brk G2 S2 => .fl .nx G2 S2
      | r => r)
    | .bl false => .fl .nx G S1
    | _ => .bad
def forGo (tg : Tg) (b : MS) (src : Src) : List D → MS
  | [], G, S => if src.stays S then .fl .nx G S else .bad
  | x :: xs, G, S => if src.stays S then
      match setTg G tg x with
      | none => .bad
      | some G2 => match b G2 S with
        | .fl .nx G3 S3 => forGo tg b src xs G3 S3
        | .fl .brk G3 S3 => .fl .nx G3 S3
        | r => r
    else .bad
def whlMost : Nat := 1048576
def setItemD (S : Store) (o i d : D) : Option Store :=
  match o, i with
  | .loc n, .int k => match S[n]? with
    | some (.lst ds) => (ixAt ds.length k).map fun j => S.set n (.lst (ds.set j d))
    | _ => none
  | .loc n, .tup ks => match S[n]? with
    | some (.dct kvs) => if keyOk (.tup ks) && decide (kvs.length < lineN) then some (S.set n (.dct (dput kvs (.tup ks) d))) else none
    | _ => none
  | .loc n, .str x => match S[n]? with
    | some (.dks false kvs) => if kvs.length < lineN then some (S.set n (.dks false (sput kvs x d))) else none
    | _ => none
  | _, _ => none
def appD (S : Store) (o d : D) : Option Store :=
  match o with
  | .loc n => match S[n]? with
    | some (.lst ds) => if ds.length < lineN then some (S.set n (.lst (ds ++ [d]))) else none
    | _ => none
  | _ => none
/-- an exception that a handler with a name takes: it reads the field -/
def caughtAs (c j : Nat) (h : Ha) (x : Xc) (G : Env) (S : Store) : SR :=
  if x.cls = c then (if j < G.length then (match h with
    | .ret f => (match x.fs.lookup f with
      | some v => .fl (.ret v) (G.set j none) S
      | none => .bad)
    | .set i f => (match x.fs.lookup f with
      | some v => .fl .nx ((setV G i v).set j none) S
      | none => .bad)) else .bad) else .exc x G S
mutual
def evS (C : Calls) : S → MS
  | .set i e, G, S => (evE C e G S).toS G fun d S1 => .fl .nx (setV G i d) S1
  | .setT is e, G, S => (evE C e G S).toS G fun d S1 => match setTg G (.tup is) d with
    | some G2 => .fl .nx G2 S1
    | none => .bad
  | .par is es, G, S => (evEs C es G S).toS G fun ds S1 => match setVs G is ds with
    | some G2 => .fl .nx G2 S1
    | none => .bad
  | .setI o i e, G, S => (evE C e G S).toS G fun d S1 => (evE C o G S1).toS G fun x S2 => (evE C i G S2).toS G fun y S3 => match setItemD S3 x y d with
    | some S4 => .fl .nx G S4
    | none => .bad
  | .ret e, G, S => (evE C e G S).toS G fun d S1 => .fl (.ret d) G S1
  | .exp e, G, S => (evE C e G S).toS G fun _ S1 => .fl .nx G S1
  | .app o e, G, S => (evE C o G S).toS G fun x S1 => if (listOf S1 x).isSome then (evE C e G S1).toS G fun d S2 => match appD S2 x d with
      | some S3 => .fl .nx G S3
      | none => .bad
    else .bad
  | .ife c a b, G, S => (evE C c G S).toS G fun d S1 => match d with
    | .bl true => evSs C a G S1
    | .bl false => evSs C b G S1
    | _ => .bad
  | .whl c b, G, S => whlGo (evE C c) (evSs C b) whlMost G S
  | .for_ tg it b, G, S => (evI C it G S).toS G fun src S1 => forGo tg (evSs C b) src src.items G S1
  | .brk, G, S => .fl .brk G S
  | .raise c _, G, S => .exc ⟨c, []⟩ G S
  | .try_ b hs, G, S => match evSs C b G S with
    | .exc x G2 S2 => (match hs.lookup x.cls with
      | some (.ret c) => .fl (.ret c.d) G2 S2
      | some (.set i c) => .fl .nx (setV G2 i c.d) S2
      | none => .exc x G2 S2)
    | r => r
  | .raiseE c f e, G, S => (evE C e G S).toS G fun d S1 => .exc ⟨c, [(f, d)]⟩ G S1
  | .tryAs b c j h, G, S => match evSs C b G S with
    | .exc x G2 S2 => caughtAs c j h x G2 S2
    | r => r
  | .forK tg i b, G, S => match G[i]? with
    | some (some (.loc n)) => (match S[n]? with
      | some (.dks false kvs) => (match forGo tg (evSs C b) ⟨kvs.map fun p => .str p.1, none⟩ (kvs.map fun p => .str p.1) G (S.set n (.dks true kvs)) with
        | .fl f G2 S2 => (match S2[n]? with
          | some (.dks true kvs2) => .fl f G2 (S2.set n (.dks false kvs2))
          | _ => .bad)
        | r => r)
      | _ => .bad)
    | _ => .bad
def evSs (C : Calls) : Ss → MS
  | .nil, G, S => .fl .nx G S
  | .cons s ss, G, S => match evS C s G S with
    | .fl .nx G2 S2 => evSs C ss G2 S2
    | r => r
end

/-! ### defs and calls -/
structure FD where
  name : Str
  N : List Str
  np : Nat
  body : Ss
  tr : Bool := false
def startE (n : Nat) (ds : List D) : Env := ds.map some ++ List.replicate (n - ds.length) none
/-- a def's own objects are let go: what it hands back is a value -/
def letGo (n : Nat) (S0 S : Store) (d : D) : Option (D × Store) :=
  if (S.take n).length == n && ((List.range n).all fun i => match S0[i]?, S[i]? with
      | some a, some b => Ob.same a b || Ob.under n b
      | _, _ => false) then
    match d with
    | .loc m => if m < n then some (d, S.take n) else match S[m]? with
      | some (.lst ds) => if D.underL n ds then some (.lst ds, S.take n) else none
      | _ => none
    | d => if D.under n d then some (d, S.take n) else none
  else none
def endCall (tr : Bool) (S0 : Store) : SR → R D
  | .fl .nx _ S => if tr then (match letGo S0.length S0 S .non with
    | some (d, S') => .ok d S'
    | none => .bad) else .ok .non S
  | .fl (.ret d) _ S => if tr then (match letGo S0.length S0 S d with
    | some (d', S') => .ok d' S'
    | none => .bad) else .ok d S
  | .fl .brk _ _ => .bad
  | .exc x _ S => .exc x S
  | .bad => .bad
def callN (T : Nat → Option FD) : Nat → Calls
  | 0, _, _, _ => .bad
  | k + 1, f, ds, S => match T f with
    | none => .bad
    | some fd => if ds.length = fd.np then endCall fd.tr S (evSs (callN T k) fd.body (startE fd.N.length ds) S) else .bad
end NW
end
section
/- How values and stores lie in the abstract heap. -/
namespace NW
open PySem PySem.Spec L2

/-- where the defs stand; the program and the world -/
structure Fa where
  f : Nat → Addr
  P : Program
  w : World
  /-- the classes of exceptions that are known -/
  x : Nat → Bool := fun _ => false
  /-- the defs that are known -/
  d : Nat → Bool := fun _ => false
instance : CoeFun Fa (fun _ => Nat → Addr) := ⟨Fa.f⟩
/-- a tuple of the written part -/
def KTup (K : PySem.W.Frag) (a : Addr) (xs : List V) : Prop :=
  ∃ (o : Obj) (its : Array Value) (n : Nat), K.lookup a = some o ∧ o.cls = .type "tuple" ∧ o.data = .seq its n ∧ its.size ≤ sizeLine ∧ Vals xs its.toList
def KLst (K : PySem.W.Frag) (a : Addr) (xs : List V) : Prop :=
  ∃ (o : Obj) (its : Array Value) (n : Nat), K.lookup a = some o ∧ o.cls = .type "list" ∧ o.dict = none ∧ o.data = .seq its n ∧ its.size ≤ sizeLine ∧ Vals xs its.toList
/-- the places' addresses; addresses that no value here refers to (lists that a comprehension is making) -/
structure Pl where
  pl : List Addr
  fb : List Addr := []
mutual
inductive Rep (K : PySem.W.Frag) (fa : Fa) (A : Pl) (H : Hp) : V → D → Prop
  | non : Rep K fa A H .non .non
  | bl (b : Bool) : Rep K fa A H (.bl b) (.bl b)
  | int (i : Int) : Rep K fa A H (.int i) (.int i)
  | str (x : Str) : Rep K fa A H (.str x) (.str x)
  | tup {a : Addr} {xs : List V} {ds : List D} : H a = some (.tup xs) → a ∉ A.pl → a ∉ A.fb → RepL K fa A H xs ds → Rep K fa A H (.ref a) (.tup ds)
  | ktup {a : Addr} {xs : List V} {ds : List D} : KTup K a xs → RepL K fa A H xs ds → Rep K fa A H (.ref a) (.tup ds)
  | lst {a : Addr} {xs : List V} {ds : List D} : H a = some (.lst xs) → a ∉ A.pl → a ∉ A.fb → RepL K fa A H xs ds → Rep K fa A H (.ref a) (.lst ds)
  | loc {a : Addr} {n : Nat} : A.pl[n]? = some a → Rep K fa A H (.ref a) (.loc n)
  | fn (f : Nat) (known : fa.d f = true) : Rep K fa A H (.ref (fa f)) (.fn f)
  | scr {a : Addr} {ns : List Int} : Rd H a (.lst (ns.map V.int)) → a ∉ A.pl → a ∉ A.fb → Rep K fa A H (.ref a) (.scr ns)
  | kscr {a : Addr} {ns : List Int} : KLst K a (ns.map V.int) → Rep K fa A H (.ref a) (.scr ns)
inductive RepL (K : PySem.W.Frag) (fa : Fa) (A : Pl) (H : Hp) : List V → List D → Prop
  | nil : RepL K fa A H [] []
  | cons {v : V} {vs : List V} {d : D} {ds : List D} : Rep K fa A H v d → RepL K fa A H vs ds → RepL K fa A H (v :: vs) (d :: ds)
end
variable {K : PySem.W.Frag} {fa : Fa} {A A1 A2 A' : Pl} {H H1 H2 H' : Hp} {σ : St} {G : Env}

theorem RepL.length {vs : List V} {ds : List D} (r : RepL K fa A H vs ds) : vs.length = ds.length := by
  induction ds generalizing vs with
  | nil => cases r; rfl
  | cons d ds ih => cases r with | cons _ t => simp [ih t]
theorem RepL.get : ∀ {ds : List D} {vs : List V} {i : Nat} {d : D}, RepL K fa A H vs ds → ds[i]? = some d → ∃ v, vs[i]? = some v ∧ Rep K fa A H v d
  | [], _, _, _, _, e => by simp at e
  | _ :: _, _, 0, _, .cons r _, e => by simp at e; subst e; exact ⟨_, rfl, r⟩
  | _ :: _, _, i + 1, _, .cons _ t, e => by simpa using RepL.get (i := i) t (by simpa using e)
theorem RepL.getV : ∀ {vs : List V} {ds : List D} {i : Nat} {v : V}, RepL K fa A H vs ds → vs[i]? = some v → ∃ d, ds[i]? = some d ∧ Rep K fa A H v d
  | [], _, _, _, _, e => by simp at e
  | _ :: _, _, 0, _, .cons r _, e => by simp at e; subst e; exact ⟨_, rfl, r⟩
  | _ :: _, _, i + 1, _, .cons _ t, e => by simpa using RepL.getV (i := i) t (by simpa using e)
theorem RepL.append : ∀ {xs ys : List V} {ds es : List D}, RepL K fa A H xs ds → RepL K fa A H ys es → RepL K fa A H (xs ++ ys) (ds ++ es)
  | _, _, _, _, .nil, s => s
  | _, _, _, _, .cons r t, s => .cons r (RepL.append t s)
theorem RepL.take : ∀ {xs : List V} {ds : List D} (n : Nat), RepL K fa A H xs ds → RepL K fa A H (xs.take n) (ds.take n)
  | _, _, 0, _ => .nil
  | _, _, _ + 1, .nil => .nil
  | _, _, n + 1, .cons r t => .cons r (RepL.take n t)
theorem RepL.drop : ∀ {xs : List V} {ds : List D} (n : Nat), RepL K fa A H xs ds → RepL K fa A H (xs.drop n) (ds.drop n)
  | _, _, 0, r => r
  | _, _, _ + 1, .nil => .nil
  | _, _, n + 1, .cons _ t => RepL.drop n t
theorem RepL.set {v : V} {d : D} (r : Rep K fa A H v d) : ∀ {xs : List V} {ds : List D} (i : Nat), RepL K fa A H xs ds → RepL K fa A H (xs.set i v) (ds.set i d)
  | _, _, _, .nil => .nil
  | _, _, 0, .cons _ t => .cons r t
  | _, _, i + 1, .cons q t => .cons q (RepL.set r i t)
theorem RepL.rep {xs : List V} {ds : List D} (h : RepL K fa A H xs ds) : ∀ k : Nat, RepL K fa A H (List.replicate k xs).flatten (List.replicate k ds).flatten
  | 0 => .nil
  | k + 1 => by
    rw [List.replicate_succ, List.flatten_cons, List.replicate_succ, List.flatten_cons]
    exact h.append (RepL.rep h k)
theorem RepL.ints : ∀ ns : List Int, RepL K fa A H (ns.map V.int) (ns.map D.int)
  | [] => .nil
  | n :: ns => .cons (.int n) (RepL.ints ns)
theorem RepL.reverse : ∀ {xs : List V} {ds : List D}, RepL K fa A H xs ds → RepL K fa A H xs.reverse ds.reverse
  | _, _, .nil => .nil
  | _, _, .cons r t => by
    rw [List.reverse_cons, List.reverse_cons]
    exact (RepL.reverse t).append (.cons r .nil)

/-- what a step of the program may do to the heap: the places' own objects may change, new ones may come -/
structure Ext (A : Pl) (H : Hp) (A' : Pl) (H' : Hp) : Prop where
  pre : ∃ B, A'.pl = A.pl ++ B
  fb : A'.fb = A.fb
  new : ∀ b ∈ A'.pl, b ∉ A.pl → H b = none
  keep : ∀ a o, a ∉ A.pl → H a = some o → H' a = some o
  /-- what is locked stays as it is -/
  frz : ∀ a o u, H a = some (.frz o u) → H' a = some (.frz o u)
theorem Ext.refl : Ext A H A H := ⟨⟨[], by simp⟩, rfl, fun _ h1 h2 => absurd h1 h2, fun _ _ _ h => h, fun _ _ _ h => h⟩
/-- nothing locked stands there -/
def NF (H : Hp) (p : Addr) : Prop := ∀ o u, H p ≠ some (.frz o u)
theorem NF.none {H : Hp} {p : Addr} (h : H p = none) : NF H p := fun o u z => by rw [h] at z; cases z
theorem NF.lst {H : Hp} {p : Addr} {xs : List V} (h : H p = some (.lst xs)) : NF H p := fun o u z => by
  rw [h] at z; cases z
theorem NF.dK {H : Hp} {p : Addr} {xs : List (Key × V)} (h : H p = some (.dK xs)) : NF H p := fun o u z => by
  rw [h] at z; cases z
theorem NF.ext {H : Hp} {p : Addr} {f : Heap → Prop} (h : H p = some (.ext f)) : NF H p := fun o u z => by
  rw [h] at z
  have z' := Option.some.inj z
  cases z'
theorem NF.keep {H : Hp} {p : Addr} {w : HO} (n : NF H p) {a : Addr} {o : Obj} {u : HO} (h : H a = some (.frz o u)) : (upd H p w) a = some (.frz o u) := by
  rw [upd_ne (by rintro rfl; exact n o u h)]; exact h
theorem Ext.notin (e : Ext A H A1 H1) {a : Addr} {o : HO} (h : H a = some o) (n : a ∉ A.pl) : a ∉ A1.pl := fun m => by
  rw [e.new a m n] at h; cases h
theorem Ext.trans (e : Ext A H A1 H1) (e2 : Ext A1 H1 A2 H2) : Ext A H A2 H2 where
  pre := by
    obtain ⟨B, h⟩ := e.pre
    obtain ⟨B2, h2⟩ := e2.pre
    exact ⟨B ++ B2, by rw [h2, h, List.append_assoc]⟩
  fb := e2.fb.trans e.fb
  new := fun b m n => by
    by_cases h : b ∈ A1.pl
    · exact e.new b h n
    · have q := e2.new b m h
      cases q2 : H b with
      | none => rfl
      | some o => rw [e.keep b o n q2] at q; cases q
  keep := fun a o n h => e2.keep a o (e.notin h n) (e.keep a o n h)
  frz := fun a o u h => e2.frz a o u (e.frz a o u h)
theorem Ext.at (e : Ext A H A1 H1) {n : Nat} {a : Addr} (m : A.pl[n]? = some a) : A1.pl[n]? = some a := by
  obtain ⟨B, h⟩ := e.pre
  have hn := (List.getElem?_eq_some_iff.mp m).1
  rw [h, List.getElem?_append_left hn]; exact m
mutual
/-- a value in another heap: what it stands on is kept -/
theorem Rep.carry (hp : ∀ (n : Nat) (a : Addr), A.pl[n]? = some a → A1.pl[n]? = some a) (hk : ∀ a o, a ∉ A.pl → a ∉ A.fb → H a = some o → H1 a = some o ∧ a ∉ A1.pl ∧ a ∉ A1.fb) : ∀ (d : D) (v : V), Rep K fa A H v d → Rep K fa A1 H1 v d
  | .non, _, h => by cases h; exact .non
  | .bl b, _, h => by cases h; exact .bl b
  | .int i, _, h => by cases h; exact .int i
  | .str x, _, h => by cases h; exact .str x
  | .tup ds, _, h => by
    cases h with
    | tup h n m r => obtain ⟨q1, q2, q3⟩ := hk _ _ n m h; exact .tup q1 q2 q3 (RepL.carry hp hk ds _ r)
    | ktup k r => exact .ktup k (RepL.carry hp hk ds _ r)
  | .lst ds, _, h => by
    cases h with
    | lst h n m r => obtain ⟨q1, q2, q3⟩ := hk _ _ n m h; exact .lst q1 q2 q3 (RepL.carry hp hk ds _ r)
  | .loc n, _, h => by
    cases h with
    | loc m => exact .loc (hp _ _ m)
  | .fn f, _, h => by cases h with | fn _ k => exact .fn f k
  | .scr ns, _, h => by
    cases h with
    | scr h n m =>
      rcases h with h | ⟨o, h⟩
      · obtain ⟨q1, q2, q3⟩ := hk _ _ n m h; exact .scr (.inl q1) q2 q3
      · obtain ⟨q1, q2, q3⟩ := hk _ _ n m h; exact .scr (.inr ⟨o, q1⟩) q2 q3
    | kscr k => exact .kscr k
theorem RepL.carry (hp : ∀ (n : Nat) (a : Addr), A.pl[n]? = some a → A1.pl[n]? = some a) (hk : ∀ a o, a ∉ A.pl → a ∉ A.fb → H a = some o → H1 a = some o ∧ a ∉ A1.pl ∧ a ∉ A1.fb) : ∀ (ds : List D) (vs : List V), RepL K fa A H vs ds → RepL K fa A1 H1 vs ds
  | [], _, h => by cases h; exact .nil
  | d :: ds, _, h => by
    cases h with
    | cons h1 h2 => exact .cons (Rep.carry hp hk d _ h1) (RepL.carry hp hk ds _ h2)
end
theorem Rep.mono (e : Ext A H A1 H1) (d : D) (v : V) (h : Rep K fa A H v d) : Rep K fa A1 H1 v d :=
  Rep.carry (fun _ _ m => e.at m) (fun a o n m h => ⟨e.keep a o n h, e.notin h n, by rw [e.fb]; exact m⟩) d v h
theorem RepL.mono (e : Ext A H A1 H1) (ds : List D) (vs : List V) (h : RepL K fa A H vs ds) : RepL K fa A1 H1 vs ds :=
  RepL.carry (fun _ _ m => e.at m) (fun a o n m h => ⟨e.keep a o n h, e.notin h n, by rw [e.fb]; exact m⟩) ds vs h
def Pl.take (A : Pl) (n : Nat) : Pl := ⟨A.pl.take n, A.fb⟩
mutual
/-- the same value where fewer places are known -/
theorem Rep.under {n : Nat} : ∀ (d : D) (v : V), Rep K fa A H v d → d.under n = true → Rep K fa (A.take n) H v d
  | .non, _, h, _ => by cases h; exact .non
  | .bl b, _, h, _ => by cases h; exact .bl b
  | .int i, _, h, _ => by cases h; exact .int i
  | .str x, _, h, _ => by cases h; exact .str x
  | .tup ds, _, h, q => by
    have q' : D.underL n ds = true := by simpa only [D.under] using q
    cases h with
    | tup h m l r => exact .tup h (fun z => m (List.mem_of_mem_take z)) l (RepL.under ds _ r q')
    | ktup k r => exact .ktup k (RepL.under ds _ r q')
  | .lst ds, _, h, q => by
    have q' : D.underL n ds = true := by simpa only [D.under] using q
    cases h with
    | lst h m l r => exact .lst h (fun z => m (List.mem_of_mem_take z)) l (RepL.under ds _ r q')
  | .loc m, _, h, q => by
    have q' : m < n := by simpa only [D.under, decide_eq_true_eq] using q
    cases h with
    | loc z => exact .loc (by show (A.pl.take n)[m]? = _; rw [List.getElem?_take_of_lt q']; exact z)
  | .fn f, _, h, _ => by cases h with | fn _ k => exact .fn f k
  | .scr ns, _, h, _ => by
    cases h with
    | scr h m l => exact .scr h (fun z => m (List.mem_of_mem_take z)) l
    | kscr k => exact .kscr k
theorem RepL.under {n : Nat} : ∀ (ds : List D) (vs : List V), RepL K fa A H vs ds → D.underL n ds = true → RepL K fa (A.take n) H vs ds
  | [], _, h, _ => by cases h; exact .nil
  | d :: ds, _, h, q => by
    have q' : d.under n = true ∧ D.underL n ds = true := by simpa only [D.underL, Bool.and_eq_true] using q
    cases h with
    | cons h1 h2 => exact .cons (Rep.under d _ h1 q'.1) (RepL.under ds _ h2 q'.2)
end
/-- a dict at a whose keys are tuples: each key, where its tuple stands, its value -/
structure DctAt (P : Program) (w : World) (a : Addr) (es : List (NestedKey × Addr × V)) (h : Heap) : Prop where
  sys : (a == sysModules) = false
  len : es.length ≤ sizeLine
  raw : ∃ xs : List (NestedKey × Addr × Value), Paired (fun p q => p.1 = q.1 ∧ p.2.1 = q.2.1 ∧ RelV p.2.2 q.2.2) es xs ∧ ∃ o ents ep, h.get? a = some o ∧ o.ExactDict ∧ o.data = .dict ents ep ∧ ents.toList = xs.map (entryOfKey (nestedKind P w)) ∧ (xs.map (·.1)).Nodup
def dctO (fa : Fa) (a : Addr) (es : List (NestedKey × Addr × V)) : HO := .ext (DctAt fa.P fa.w a es)
/-- a dict whose keys are texts -/
def RepS (K : PySem.W.Frag) (fa : Fa) (A : Pl) (H : Hp) (p : Key × V) (q : Str × D) : Prop := p.1 = .inr q.1 ∧ Rep K fa A H p.2 q.2
/-- .. as it stands: locked or not -/
def DksAt (H : Hp) (a : Addr) (f : Bool) (es : List (Key × V)) : Prop := if f = true then ∃ od, H a = some (.frz od (.dK es)) else H a = some (.dK es)
theorem DksAt.rd {H : Hp} {a : Addr} {f : Bool} {es : List (Key × V)} (h : DksAt H a f es) : Rd H a (.dK es) := by
  cases f with
  | false => exact .inl h
  | true => exact .inr h
theorem DksAt.there {H : Hp} {a : Addr} {f : Bool} {es : List (Key × V)} (h : DksAt H a f es) : ∃ u, H a = some u := by
  cases f with
  | false => exact ⟨_, h⟩
  | true => obtain ⟨od, h⟩ := h; exact ⟨_, h⟩
theorem DksAt.of {H H1 : Hp} {a : Addr} {f : Bool} {es : List (Key × V)} (h : DksAt H a f es) (e : H1 a = H a) : DksAt H1 a f es := by
  unfold DksAt at h ⊢
  rw [e]; exact h
def RepK (K : PySem.W.Frag) (fa : Fa) (A : Pl) (H : Hp) (p : NestedKey × Addr × V) (q : D × D) : Prop := q.1.nk = some p.1 ∧ keyOk q.1 = true ∧ Rep K fa A H (.ref p.2.1) q.1 ∧ Rep K fa A H p.2.2 q.2
/-- an object of a place -/
inductive RepO (K : PySem.W.Frag) (fa : Fa) (A : Pl) (H : Hp) : Addr → Ob → Prop
  | lst {a : Addr} {xs : List V} {ds : List D} : H a = some (.lst xs) → RepL K fa A H xs ds → RepO K fa A H a (.lst ds)
  | dct {a : Addr} {es : List (NestedKey × Addr × V)} {kvs : List (D × D)} : H a = some (dctO fa a es) → Paired (RepK K fa A H) es kvs → RepO K fa A H a (.dct kvs)
  | dks {a : Addr} {f : Bool} {es : List (Key × V)} {kvs : List (Str × D)} : DksAt H a f es → Paired (RepS K fa A H) es kvs → RepO K fa A H a (.dks f kvs)
theorem RepS.imp {A A1 : Pl} {H H1 : Hp} {K : PySem.W.Frag} {fa : Fa} (h : ∀ d v, Rep K fa A H v d → Rep K fa A1 H1 v d) {es : List (Key × V)} {kvs : List (Str × D)} (r : Paired (RepS K fa A H) es kvs) : Paired (RepS K fa A1 H1) es kvs :=
  Paired.mapP r fun p q ⟨h1, h2⟩ => ⟨h1, h _ _ h2⟩
theorem RepK.imp {A A1 : Pl} {H H1 : Hp} {K : PySem.W.Frag} {fa : Fa} (h : ∀ d v, Rep K fa A H v d → Rep K fa A1 H1 v d) {es : List (NestedKey × Addr × V)} {kvs : List (D × D)} (r : Paired (RepK K fa A H) es kvs) : Paired (RepK K fa A1 H1) es kvs :=
  Paired.mapP r fun p q ⟨h1, h2, h3, h4⟩ => ⟨h1, h2, h _ _ h3, h _ _ h4⟩
structure SRel (K : PySem.W.Frag) (fa : Fa) (A : Pl) (H : Hp) (S : Store) : Prop where
  len : A.pl.length = S.length
  nd : A.pl.Nodup
  obj : ∀ (n : Nat) (o : Ob), S[n]? = some o → ∃ a, A.pl[n]? = some a ∧ RepO K fa A H a o
  fbt : ∀ b ∈ A.fb, (∃ o, H b = some o) ∧ b ∉ A.pl
def GRel (K : PySem.W.Frag) (fa : Fa) (A : Pl) (H : Hp) (σ : St) (G : Env) : Prop :=
  G.length = σ.length ∧ ∀ (i : Nat) (d : D), G[i]? = some (some d) → ∃ v, σ[i]? = some (some v) ∧ Rep K fa A H v d
theorem GRel.mono (g : GRel K fa A H σ G) (e : Ext A H A1 H1) : GRel K fa A1 H1 σ G :=
  ⟨g.1, fun i d h => let ⟨v, h1, h2⟩ := g.2 i d h; ⟨v, h1, Rep.mono e _ _ h2⟩⟩
theorem SRel.mem {S : Store} (s : SRel K fa A H S) {a : Addr} (m : a ∈ A.pl) : ∃ (n : Nat) (o : Ob), S[n]? = some o ∧ A.pl[n]? = some a ∧ RepO K fa A H a o := by
  obtain ⟨n, hn⟩ := List.getElem?_of_mem m
  have h1 := (List.getElem?_eq_some_iff.mp hn).1
  have h2 : n < S.length := by rw [← s.len]; exact h1
  obtain ⟨a', e, r⟩ := s.obj n S[n] (List.getElem?_eq_getElem h2)
  rw [hn] at e; cases e
  exact ⟨n, _, List.getElem?_eq_getElem h2, hn, r⟩
theorem RepO.there {a : Addr} {o : Ob} (r : RepO K fa A H a o) : ∃ u, H a = some u := by
  cases r with
  | lst h _ => exact ⟨_, h⟩
  | dct h _ => exact ⟨_, h⟩
  | dks h _ => exact h.there
theorem SRel.fresh {S : Store} (s : SRel K fa A H S) {p : Addr} (n : H p = none) : p ∉ A.pl := fun m => by
  obtain ⟨_, _, _, _, r⟩ := s.mem m
  obtain ⟨u, h⟩ := r.there
  rw [n] at h; cases h
theorem SRel.freshB {S : Store} (s : SRel K fa A H S) {p : Addr} (n : H p = none) : p ∉ A.fb := fun m => by
  obtain ⟨⟨u, h⟩, _⟩ := s.fbt p m
  rw [n] at h; cases h
theorem RepO.carry (hp : ∀ (n : Nat) (a : Addr), A.pl[n]? = some a → A1.pl[n]? = some a) (hk : ∀ a o, a ∉ A.pl → a ∉ A.fb → H a = some o → H1 a = some o ∧ a ∉ A1.pl ∧ a ∉ A1.fb) {a : Addr} {o : Ob} (he : H1 a = H a) (r : RepO K fa A H a o) : RepO K fa A1 H1 a o := by
  cases r with
  | lst q r => exact .lst (by rw [he]; exact q) (RepL.carry hp hk _ _ r)
  | dct q r => exact .dct (by rw [he]; exact q) (RepK.imp (fun d v => Rep.carry hp hk d v) r)
  | dks q r => exact .dks (q.of he) (RepS.imp (fun d v => Rep.carry hp hk d v) r)
/-- a new immutable object -/
theorem Ext.laid {S : Store} (s : SRel K fa A H S) {p : Addr} {o : HO} (n : H p = none) : Ext A H A (upd H p o) :=
  ⟨⟨[], by simp⟩, rfl, fun _ h1 h2 => absurd h1 h2, fun a u _ h => by rw [upd_ne (ne_of_none h n)]; exact h, fun _ _ _ h => (NF.none n).keep h⟩
theorem Ext.rep (e : Ext A H A1 H1) : ∀ a o, a ∉ A.pl → a ∉ A.fb → H a = some o → H1 a = some o ∧ a ∉ A1.pl ∧ a ∉ A1.fb :=
  fun a o n m h => ⟨e.keep a o n h, e.notin h n, by rw [e.fb]; exact m⟩
theorem SRel.laid {S : Store} (s : SRel K fa A H S) {p : Addr} {o : HO} (n : H p = none) : SRel K fa A (upd H p o) S :=
  ⟨s.len, s.nd, fun m ob h => by
    obtain ⟨a, e, r⟩ := s.obj m ob h
    obtain ⟨u, hu⟩ := r.there
    exact ⟨a, e, r.carry (fun _ _ m => m) (Ext.laid s n).rep (upd_ne (ne_of_none hu n))⟩,
  fun b hb => ⟨let ⟨u, hu⟩ := (s.fbt b hb).1; ⟨u, by rw [upd_ne (ne_of_none hu n)]; exact hu⟩, (s.fbt b hb).2⟩⟩
/-- a new list of a place -/
def Pl.snoc (A : Pl) (p : Addr) : Pl := ⟨A.pl ++ [p], A.fb⟩
theorem Ext.place {S : Store} (s : SRel K fa A H S) {p : Addr} {o : HO} (n : H p = none) : Ext A H (A.snoc p) (upd H p o) :=
  ⟨⟨[p], rfl⟩, rfl, fun b h1 h2 => by
    rcases List.mem_append.mp h1 with h | h
    · exact absurd h h2
    · rw [List.mem_singleton.mp h]; exact n, fun a u _ h => by rw [upd_ne (ne_of_none h n)]; exact h, fun _ _ _ h => (NF.none n).keep h⟩
theorem SRel.placeO {S : Store} (s : SRel K fa A H S) {p : Addr} {o : HO} {w : Ob} (n : H p = none) (ro : RepO K fa (A.snoc p) (upd H p o) p w) : SRel K fa (A.snoc p) (upd H p o) (S ++ [w]) := by
  have e := Ext.place (o := o) s n
  refine ⟨by simp [Pl.snoc, s.len], ?_, fun m ob h => ?_, fun b hb => ?_⟩
  · show (A.pl ++ [p]).Nodup
    rw [List.nodup_append]
    exact ⟨s.nd, by simp, fun a ha b hb => by rw [List.mem_singleton.mp hb]; rintro rfl; exact s.fresh n ha⟩
  · by_cases hm : m < S.length
    · rw [List.getElem?_append_left hm] at h
      obtain ⟨a, ea, ra⟩ := s.obj m ob h
      obtain ⟨u, hu⟩ := ra.there
      exact ⟨a, e.at ea, ra.carry (fun _ _ m => e.at m) e.rep (upd_ne (ne_of_none hu n))⟩
    · have hl : m < (S ++ [w]).length := (List.getElem?_eq_some_iff.mp h).1
      have hm' : m = S.length := by simp at hl; omega
      subst hm'
      have h' : w = ob := by simpa using h
      subst h'
      exact ⟨p, by show (A.pl ++ [p])[_]? = _; rw [← s.len]; simp, ro⟩
  · obtain ⟨⟨u, hu⟩, h2⟩ := s.fbt b hb
    refine ⟨⟨u, by rw [upd_ne (ne_of_none hu n)]; exact hu⟩, fun z => ?_⟩
    rcases List.mem_append.mp z with z | z
    · exact h2 z
    · rw [List.mem_singleton.mp z] at hu; rw [n] at hu; cases hu
theorem SRel.place {S : Store} (s : SRel K fa A H S) {p : Addr} {xs : List V} {ds : List D} (n : H p = none) (r : RepL K fa A H xs ds) : SRel K fa (A.snoc p) (upd H p (.lst xs)) (S ++ [.lst ds]) :=
  s.placeO n (.lst upd_same (RepL.mono (Ext.place (o := .lst xs) s n) _ _ r))
/-- a place's list is changed -/
theorem Ext.wrote {p : Addr} {o : HO} (m : p ∈ A.pl) (nf : NF H p) : Ext A H A (upd H p o) :=
  ⟨⟨[], by simp⟩, rfl, fun _ h1 h2 => absurd h1 h2, fun a u n h => by rw [upd_ne (by rintro rfl; exact n m)]; exact h, fun _ _ _ h => nf.keep h⟩
/-- values may be carried over a place's change -/
theorem wrote_rep {p : Addr} {o : HO} (m : p ∈ A.pl) : ∀ a u, a ∉ A.pl → a ∉ A.fb → H a = some u → (upd H p o) a = some u ∧ a ∉ A.pl ∧ a ∉ A.fb := fun a u h1 h2 h =>
  ⟨by rw [upd_ne (by rintro rfl; exact h1 m)]; exact h, h1, h2⟩
theorem SRel.wroteO {S : Store} (s : SRel K fa A H S) {n : Nat} {p : Addr} {o : HO} {w : Ob} (hp : A.pl[n]? = some p) (ro : RepO K fa A (upd H p o) p w) : SRel K fa A (upd H p o) (S.set n w) := by
  refine ⟨by simp [s.len], s.nd, fun m ob h => ?_, fun b hb => ⟨let ⟨u, hu⟩ := (s.fbt b hb).1; ⟨u, by rw [upd_ne (by rintro rfl; exact (s.fbt _ hb).2 (List.mem_of_getElem? hp))]; exact hu⟩, (s.fbt b hb).2⟩⟩
  by_cases hm : n = m
  · subst hm
    have hn : n < S.length := by rw [← s.len]; exact (List.getElem?_eq_some_iff.mp hp).1
    rw [List.getElem?_set_self hn] at h
    cases h
    exact ⟨p, hp, ro⟩
  · rw [List.getElem?_set_ne hm] at h
    obtain ⟨a, ea, ra⟩ := s.obj m ob h
    have hne : a ≠ p := by
      rintro rfl
      obtain ⟨h1, e1⟩ := List.getElem?_eq_some_iff.mp hp
      obtain ⟨h2, e2⟩ := List.getElem?_eq_some_iff.mp ea
      exact hm ((List.getElem_inj s.nd).mp (e1.trans e2.symm))
    exact ⟨a, ea, RepO.carry (A := A) (A1 := A) (fun _ _ m => m) (wrote_rep (List.mem_of_getElem? hp)) (upd_ne hne) ra⟩
theorem SRel.wrote {S : Store} (s : SRel K fa A H S) {n : Nat} {p : Addr} {xs : List V} {ds : List D} (hp : A.pl[n]? = some p) (r : RepL K fa A H xs ds) : SRel K fa A (upd H p (.lst xs)) (S.set n (.lst ds)) :=
  s.wroteO hp (.lst upd_same (RepL.carry (A := A) (A1 := A) (fun _ _ m => m) (wrote_rep (List.mem_of_getElem? hp)) _ _ r))
/-! ### a list in the making: no value refers to it -/
def Pl.guard (A : Pl) (p : Addr) : Pl := ⟨A.pl, p :: A.fb⟩
theorem guard_rep {p : Addr} {o : HO} (n : H p = none) : ∀ a u, a ∉ A.pl → a ∉ A.fb → H a = some u → (upd H p o) a = some u ∧ a ∉ (A.guard p).pl ∧ a ∉ (A.guard p).fb := fun a u h1 h2 h =>
  have hne : a ≠ p := ne_of_none h n
  ⟨by rw [upd_ne hne]; exact h, h1, fun z => (List.mem_cons.mp z).elim hne h2⟩
theorem SRel.guard {S : Store} (s : SRel K fa A H S) {p : Addr} {o : HO} (n : H p = none) : SRel K fa (A.guard p) (upd H p o) S :=
  ⟨s.len, s.nd, fun m ob h => by
    obtain ⟨a, e, r⟩ := s.obj m ob h
    obtain ⟨u, hu⟩ := r.there
    exact ⟨a, e, RepO.carry (A := A) (A1 := A.guard p) (fun _ _ m => m) (guard_rep n) (upd_ne (ne_of_none hu n)) r⟩,
  fun b hb => by
    rcases List.mem_cons.mp hb with rfl | hb
    · exact ⟨⟨o, upd_same⟩, s.fresh n⟩
    · exact ⟨let ⟨u, hu⟩ := (s.fbt b hb).1; ⟨u, by rw [upd_ne (ne_of_none hu n)]; exact hu⟩, (s.fbt b hb).2⟩⟩
theorem GRel.guard (g : GRel K fa A H σ G) {p : Addr} {o : HO} (n : H p = none) : GRel K fa (A.guard p) (upd H p o) σ G :=
  ⟨g.1, fun i d h => let ⟨v, h1, h2⟩ := g.2 i d h; ⟨v, h1, Rep.carry (A := A) (A1 := A.guard p) (fun _ _ m => m) (guard_rep n) _ _ h2⟩⟩
theorem off_rep {p : Addr} {o : HO} (hp : p ∈ A.fb) : ∀ a u, a ∉ A.pl → a ∉ A.fb → H a = some u → (upd H p o) a = some u ∧ a ∉ A.pl ∧ a ∉ A.fb := fun a u h1 h2 h =>
  have hne : a ≠ p := by rintro rfl; exact h2 hp
  ⟨by rw [upd_ne hne]; exact h, h1, h2⟩
theorem SRel.off {S : Store} (s : SRel K fa A H S) {p : Addr} {o : HO} (hp : p ∈ A.fb) : SRel K fa A (upd H p o) S :=
  ⟨s.len, s.nd, fun m ob h => by
    obtain ⟨a, e, r⟩ := s.obj m ob h
    exact ⟨a, e, r.carry (fun _ _ m => m) (off_rep hp) (upd_ne (by rintro rfl; exact (s.fbt _ hp).2 (List.mem_of_getElem? e)))⟩,
  fun b hb => ⟨by
    by_cases hbp : b = p
    · subst hbp; exact ⟨o, upd_same⟩
    · obtain ⟨u, hu⟩ := (s.fbt b hb).1
      exact ⟨u, by rw [upd_ne hbp]; exact hu⟩, (s.fbt b hb).2⟩⟩
def Pl.bare (A : Pl) (l : List Addr) : Pl := ⟨A.pl, l⟩
theorem Rep.bare {l : List Addr} (hl : ∀ b ∈ l, b ∈ A.fb) (d : D) (v : V) (r : Rep K fa A H v d) : Rep K fa (A.bare l) H v d :=
  Rep.carry (A := A) (A1 := A.bare l) (fun _ _ m => m) (fun a o h1 h2 h => ⟨h, h1, fun z => h2 (hl a z)⟩) d v r
theorem RepL.bare {l : List Addr} (hl : ∀ b ∈ l, b ∈ A.fb) (ds : List D) (vs : List V) (r : RepL K fa A H vs ds) : RepL K fa (A.bare l) H vs ds :=
  RepL.carry (A := A) (A1 := A.bare l) (fun _ _ m => m) (fun a o h1 h2 h => ⟨h, h1, fun z => h2 (hl a z)⟩) ds vs r
theorem SRel.bare {S : Store} {l : List Addr} (hl : ∀ b ∈ l, b ∈ A.fb) (s : SRel K fa A H S) : SRel K fa (A.bare l) H S :=
  ⟨s.len, s.nd, fun m ob h => by
    obtain ⟨a, e, r⟩ := s.obj m ob h
    exact ⟨a, e, RepO.carry (A := A) (A1 := A.bare l) (fun _ _ m => m) (fun a o h1 h2 h => ⟨h, h1, fun z => h2 (hl a z)⟩) rfl r⟩, fun b hb => s.fbt b (hl b hb)⟩

/-- an exception: its class, its own dict -/
def RepX (K : PySem.W.Frag) (fa : Fa) (ca : Nat → Addr) (A : Pl) (H : Hp) (c : Value) (d : Option Addr) (x : Xc) : Prop :=
  (fa.x x.cls = true ∧ c = .ref (ca x.cls)) ∧ match d with
  | none => x.fs = []
  | some a => ∃ fs, H a = some (.xd fs) ∧ a ∉ A.pl ∧ a ∉ A.fb ∧ fs.map (·.1) = x.fs.map (·.1) ∧ RepL K fa A H (fs.map (·.2)) (x.fs.map (·.2))
/-- what must hold behind an answer -/
def RPost {α β : Type} (K : PySem.W.Frag) (fa : Fa) (ca : Nat → Addr) (rep : Pl → Hp → β → α → Prop) (r : R α) (A : Pl) (H : Hp) (Q : β → Hp → Prop) (W : Value → Option Addr → Hp → Prop) : Prop :=
  match r with
  | .ok a S => ∀ v H' A', Ext A H A' H' → SRel K fa A' H' S → rep A' H' v a → Q v H'
  | .exc x S => ∀ c d H' A', Ext A H A' H' → SRel K fa A' H' S → RepX K fa ca A' H' c d x → W c d H'
  | .bad => False
theorem RPost.mono {α β : Type} {ca : Nat → Addr} {rep : Pl → Hp → β → α → Prop} {r : R α} {Q : β → Hp → Prop} {W : Value → Option Addr → Hp → Prop} (h : RPost K fa ca rep r A H Q W) (e : Ext A H A1 H1) : RPost K fa ca rep r A1 H1 Q W := by
  cases r with
  | ok a S => exact fun v H' A' e' s r => h v H' A' (e.trans e') s r
  | exc x S => exact fun c d H' A' e' s r => h c d H' A' (e.trans e') s r
  | bad => exact h
theorem RPost.bind {α β γ δ : Type} {ca : Nat → Addr} {rep : Pl → Hp → β → α → Prop} {rep2 : Pl → Hp → δ → γ → Prop} {r : R α} {f : α → Store → R γ} {Q : δ → Hp → Prop} {W : Value → Option Addr → Hp → Prop} (h : RPost K fa ca rep2 (r.bind f) A H Q W) :
    RPost K fa ca rep r A H (fun v H1 => ∃ A1 a S1, Ext A H A1 H1 ∧ SRel K fa A1 H1 S1 ∧ rep A1 H1 v a ∧ RPost K fa ca rep2 (f a S1) A1 H1 Q W) W := by
  cases r with
  | ok a S => exact fun v H' A' e s r => ⟨A', a, S, e, s, r, RPost.mono h e⟩
  | exc x S => exact h
  | bad => exact h
end NW
end
section
/- Dicts whose keys are tuples: what the heap holds, what is asked. -/
namespace NW
open PySem PySem.Spec L2 PyProof.Rows
mutual
theorem nk_depth : ∀ (d : D) (k : NestedKey), D.nk d = some k → k.depth = d.depth
  | .non, k, h => by simp only [D.nk] at h; cases h; rfl
  | .bl b, k, h => by simp only [D.nk] at h; cases h; rfl
  | .int i, k, h => by simp only [D.nk] at h; cases h; rfl
  | .str x, k, h => by simp only [D.nk] at h; cases h; rfl
  | .tup ds, k, h => by
    simp only [D.nk] at h
    obtain ⟨ks, h1, rfl⟩ := Option.map_eq_some_iff.mp h
    simp only [NestedKey.depth, D.depth, nkL_depth ds ks h1]
  | .lst _, k, h => by simp only [D.nk] at h; cases h
  | .loc _, k, h => by simp only [D.nk] at h; cases h
  | .fn _, k, h => by simp only [D.nk] at h; cases h
  | .scr _, k, h => by simp only [D.nk] at h; cases h
theorem nkL_depth : ∀ (ds : List D) (ks : List NestedKey), D.nkL ds = some ks → NestedKey.depthAll ks = D.depthL ds
  | [], ks, h => by simp only [D.nkL] at h; cases h; rfl
  | d :: ds, ks, h => by
    simp only [D.nkL] at h
    obtain ⟨k, h1, h⟩ := Option.bind_eq_some_iff.mp h
    obtain ⟨ks', h2, rfl⟩ := Option.map_eq_some_iff.mp h
    simp only [NestedKey.depthAll, D.depthL, nk_depth d k h1, nkL_depth ds ks' h2]
end
mutual
theorem eqv_nk : ∀ (a b : D) (x y : NestedKey), D.nk a = some x → D.nk b = some y → D.eqv a b = NestedKey.beq x y
  | .non, b, x, y, h, h2 => by
    simp only [D.nk] at h; cases h
    cases b <;> simp only [D.nk] at h2 <;> first | (cases h2; done) | (cases h2; simp only [D.eqv, NestedKey.beq]; done) | (obtain ⟨_, _, rfl⟩ := Option.map_eq_some_iff.mp h2; simp only [D.eqv, NestedKey.beq])
  | .bl c, b, x, y, h, h2 => by
    simp only [D.nk] at h; cases h
    cases b <;> simp only [D.nk] at h2 <;> first | (cases h2; done) | skip
    · cases h2; simp only [D.eqv, NestedKey.beq]
    · rename_i c2; cases h2; simp only [D.eqv, NestedKey.beq]; cases c <;> cases c2 <;> rfl
    · cases h2; simp only [D.eqv, NestedKey.beq]; rfl
    · cases h2; simp only [D.eqv, NestedKey.beq]
    · obtain ⟨_, _, rfl⟩ := Option.map_eq_some_iff.mp h2; simp only [D.eqv, NestedKey.beq]
  | .int i, b, x, y, h, h2 => by
    simp only [D.nk] at h; cases h
    cases b <;> simp only [D.nk] at h2 <;> first | (cases h2; done) | skip
    · cases h2; simp only [D.eqv, NestedKey.beq]
    · cases h2; simp only [D.eqv, NestedKey.beq]; rfl
    · cases h2; simp only [D.eqv, NestedKey.beq]; rfl
    · cases h2; simp only [D.eqv, NestedKey.beq]
    · obtain ⟨_, _, rfl⟩ := Option.map_eq_some_iff.mp h2; simp only [D.eqv, NestedKey.beq]
  | .str s, b, x, y, h, h2 => by
    simp only [D.nk] at h; cases h
    cases b <;> simp only [D.nk] at h2 <;> first | (cases h2; done) | skip
    · cases h2; simp only [D.eqv, NestedKey.beq]
    · cases h2; simp only [D.eqv, NestedKey.beq]
    · cases h2; simp only [D.eqv, NestedKey.beq]
    · cases h2; simp only [D.eqv, NestedKey.beq]; rfl
    · obtain ⟨_, _, rfl⟩ := Option.map_eq_some_iff.mp h2; simp only [D.eqv, NestedKey.beq]
  | .tup ds, b, x, y, h, h2 => by
    simp only [D.nk] at h
    obtain ⟨ks, h1, rfl⟩ := Option.map_eq_some_iff.mp h
    cases b <;> simp only [D.nk] at h2 <;> first | (cases h2; done) | skip
    · cases h2; simp only [D.eqv, NestedKey.beq]
    · cases h2; simp only [D.eqv, NestedKey.beq]
    · cases h2; simp only [D.eqv, NestedKey.beq]
    · cases h2; simp only [D.eqv, NestedKey.beq]
    · rename_i es
      obtain ⟨ls, h3, rfl⟩ := Option.map_eq_some_iff.mp h2
      simp only [D.eqv, NestedKey.beq]
      exact eqvL_nk ds es ks ls h1 h3
  | .lst _, _, _, _, h, _ => by simp only [D.nk] at h; cases h
  | .loc _, _, _, _, h, _ => by simp only [D.nk] at h; cases h
  | .fn _, _, _, _, h, _ => by simp only [D.nk] at h; cases h
  | .scr _, _, _, _, h, _ => by simp only [D.nk] at h; cases h
theorem eqvL_nk : ∀ (as bs : List D) (xs ys : List NestedKey), D.nkL as = some xs → D.nkL bs = some ys → D.eqvL as bs = NestedKey.beqAll xs ys
  | [], bs, xs, ys, h, h2 => by
    simp only [D.nkL] at h; cases h
    cases bs with
    | nil => simp only [D.nkL] at h2; cases h2; simp only [D.eqvL, NestedKey.beqAll]
    | cons b bs =>
      simp only [D.nkL] at h2
      obtain ⟨k, _, h2⟩ := Option.bind_eq_some_iff.mp h2
      obtain ⟨ks, _, rfl⟩ := Option.map_eq_some_iff.mp h2
      simp only [D.eqvL, NestedKey.beqAll]
  | a :: as, bs, xs, ys, h, h2 => by
    simp only [D.nkL] at h
    obtain ⟨k, h3, h⟩ := Option.bind_eq_some_iff.mp h
    obtain ⟨ks, h4, rfl⟩ := Option.map_eq_some_iff.mp h
    cases bs with
    | nil => simp only [D.nkL] at h2; cases h2; simp only [D.eqvL, NestedKey.beqAll]
    | cons b bs =>
      simp only [D.nkL] at h2
      obtain ⟨l, h5, h2⟩ := Option.bind_eq_some_iff.mp h2
      obtain ⟨ls, h6, rfl⟩ := Option.map_eq_some_iff.mp h2
      simp only [D.eqvL, NestedKey.beqAll, eqv_nk a b k l h3 h5, eqvL_nk as bs ks ls h4 h6]
end
theorem eqv_dec {a b : D} {x y : NestedKey} (h : D.nk a = some x) (h2 : D.nk b = some y) : D.eqv a b = decide (x = y) := by
  rw [eqv_nk a b x y h h2, NestedKey.decide_eq]
theorem keyOk_of {d : D} (h : keyOk d = true) : ∃ k, D.nk d = some k ∧ k.depth ≤ 8 ∧ ∃ ds, d = .tup ds := by
  cases d <;> simp only [keyOk] at h <;> first | (cases h; done) | skip
  simp only [Bool.and_eq_true, decide_eq_true_eq] at h
  obtain ⟨k, hk⟩ := Option.isSome_iff_exists.mp h.1
  exact ⟨k, hk, by rw [nk_depth _ _ hk]; exact h.2, _, rfl⟩
section
variable {X : Cx} {pins : List (Addr × Obj)} {σ : L2.St} {H : Hp} {s : Shared} {fa : Fa} {A : Pl} {S : Store}
mutual
theorem rep_nested (I : L2.Inv X pins σ H s) : ∀ (d : D) (v : V) (u : Value) (k : NestedKey), Rep X.K fa A H v d → D.nk d = some k → RelV v u → NestedIs s.heap k u
  | .non, _, _, k, r, h, rv => by simp only [D.nk] at h; cases h; cases r; cases rv; exact .none
  | .bl b, _, _, k, r, h, rv => by simp only [D.nk] at h; cases h; cases r; cases rv; exact .bool rfl
  | .int i, _, _, k, r, h, rv => by simp only [D.nk] at h; cases h; cases r; obtain ⟨t, rfl⟩ := rv; exact .int i t
  | .str x, _, _, k, r, h, rv => by simp only [D.nk] at h; cases h; cases r; obtain ⟨t, rfl⟩ := rv; exact .text x t
  | .tup ds, _, _, k, r, h, rv => by
    simp only [D.nk] at h
    obtain ⟨ks, h1, rfl⟩ := Option.map_eq_some_iff.mp h
    cases r with
    | tup hH n m rl =>
      cases rv
      obtain ⟨_, its, rvs, o, ho, hc, cap, hd⟩ := I.hok _ _ hH
      exact .tup ho hc hd (repL_nested I ds _ _ ks rl h1 (by simpa using rvs))
    | ktup kt rl =>
      cases rv
      obtain ⟨o, its, n, h2, h3, h4, _, rvs⟩ := kt
      exact .tup (I.kIn _ _ h2) h3 h4 (repL_nested I ds _ _ ks rl h1 rvs)
  | .lst _, _, _, _, _, h, _ => by simp only [D.nk] at h; cases h
  | .loc _, _, _, _, _, h, _ => by simp only [D.nk] at h; cases h
  | .fn _, _, _, _, _, h, _ => by simp only [D.nk] at h; cases h
  | .scr _, _, _, _, _, h, _ => by simp only [D.nk] at h; cases h
theorem repL_nested (I : L2.Inv X pins σ H s) : ∀ (ds : List D) (vs : List V) (us : List Value) (ks : List NestedKey), RepL X.K fa A H vs ds → D.nkL ds = some ks → Vals vs us → NestedAll s.heap ks us
  | [], _, _, ks, r, h, rv => by simp only [D.nkL] at h; cases h; cases r; cases rv; exact .nil
  | d :: ds, _, _, ks, r, h, rv => by
    simp only [D.nkL] at h
    obtain ⟨k, h3, h⟩ := Option.bind_eq_some_iff.mp h
    obtain ⟨ks', h4, rfl⟩ := Option.map_eq_some_iff.mp h
    cases r with
    | cons r1 r2 =>
      cases rv with
      | cons q1 q2 => exact .cons (rep_nested I d _ _ k r1 h3 q1) (repL_nested I ds _ _ ks' r2 h4 q2)
end
theorem dct_place (sr : SRel X.K fa A H S) {y : V} {b : D} {kvs : List (D × D)} (rb : Rep X.K fa A H y b) (hd : dctOf S b = some kvs) : ∃ (n : Nat) (p : Addr) (es : List (NestedKey × Addr × V)), y = .ref p ∧ b = .loc n ∧ A.pl[n]? = some p ∧ S[n]? = some (.dct kvs) ∧ H p = some (dctO fa p es) ∧ Paired (RepK X.K fa A H) es kvs := by
  cases b <;> simp only [dctOf] at hd <;> first | (cases hd; done) | skip
  rename_i n
  split at hd
  · rename_i kvs' hn
    cases hd
    cases rb with
    | loc m =>
      obtain ⟨a, ea, ro⟩ := sr.obj n _ hn
      rw [m] at ea; cases ea
      cases ro with
      | dct q r => exact ⟨n, _, _, rfl, rfl, m, hn, q, r⟩
  · cases hd
abbrev XsRel : List (NestedKey × Addr × V) → List (NestedKey × Addr × Value) → Prop := Paired fun p q => p.1 = q.1 ∧ p.2.1 = q.2.1 ∧ RelV p.2.2 q.2.2
theorem dct_heap (I : L2.Inv X pins σ H s) (hP : fa.P = X.prog) (hw : fa.w = X.w) {p : Addr} {es : List (NestedKey × Addr × V)} {kvs : List (D × D)} (h : H p = some (dctO fa p es)) (r : Paired (RepK X.K fa A H) es kvs) :
    (p == sysModules) = false ∧ es.length ≤ sizeLine ∧ ∃ xs, XsRel es xs ∧ s.heap.DictOfH (nestedKind X.prog X.w) p xs := by
  have x : ObjOk X.prog X.w H s.heap p (.ext (DctAt fa.P fa.w p es)) := I.hok p _ h
  obtain ⟨⟨h1, h2, xs, hx, o, ents, ep, h3, h4, h5, h6, h7⟩, _, _⟩ := x
  rw [hP, hw] at h6
  refine ⟨h1, h2, xs, hx, o, ents, ep, h3, h4, h5, h6, ?_, h7⟩
  have all : ∀ {l : List (NestedKey × Addr × V)} {kv : List (D × D)}, Paired (RepK X.K fa A H) l kv → ∀ {m : List (NestedKey × Addr × Value)}, XsRel l m → ∀ x ∈ m, (nestedKind X.prog X.w).is s.heap x.1 x.2.1 := by
    intro l kv r
    induction r with
    | nil => intro m hm x hx; cases hm; exact nomatch hx
    | @cons a b as bs hab t ih =>
      intro m hm x hx
      cases hm with
      | cons q1 q2 =>
        rcases List.mem_cons.mp hx with e | hx
        · subst e
          obtain ⟨k, hk, hd8, ds, _⟩ := keyOk_of hab.2.1
          have e1 : k = a.1 := by rw [hab.1] at hk; exact (Option.some.inj hk).symm
          refine ⟨?_, by rw [← q1.1, ← e1]; exact hd8⟩
          rw [← q1.1, ← q1.2.1]
          exact rep_nested I _ _ _ _ hab.2.2.1 hab.1 rfl
        · exact ih q2 x hx
  exact all r hx
theorem dct_find {d : D} {k : NestedKey} (hk : D.nk d = some k) : ∀ {es : List (NestedKey × Addr × V)} {kvs : List (D × D)} {xs : List (NestedKey × Addr × Value)}, Paired (RepK X.K fa A H) es kvs → XsRel es xs →
    (dfind kvs d = none ∧ atKey xs k = none) ∨ ∃ dv a v u, dfind kvs d = some dv ∧ atKey xs k = some (a, u) ∧ RelV v u ∧ Rep X.K fa A H v dv := by
  intro es kvs xs r
  induction r generalizing xs with
  | nil => intro h; cases h; exact .inl ⟨rfl, rfl⟩
  | @cons a b as bs hab t ih =>
    intro h
    cases h with
    | @cons _ c _ cs q1 q2 =>
      obtain ⟨h1, h2, h3, h4⟩ := hab
      have e : D.eqv b.1 d = decide (a.1 = k) := eqv_dec h1 hk
      by_cases hq : a.1 = k
      · right
        refine ⟨b.2, c.2.1, a.2.2, c.2.2, ?_, ?_, q1.2.2, h4⟩
        · unfold dfind
          rw [List.find?_cons_of_pos (by rw [e]; exact decide_eq_true hq)]
          rfl
        · unfold atKey
          rw [List.find?_cons_of_pos (by rw [← q1.1]; exact decide_eq_true hq)]
          rfl
      · have e1 : dfind (b :: bs) d = dfind bs d := by
          unfold dfind
          rw [List.find?_cons_of_neg (by rw [e]; simp [hq])]
        have e2 : atKey (c :: cs) k = atKey cs k := by
          unfold atKey
          rw [List.find?_cons_of_neg (by rw [← q1.1]; simp [hq])]
        rw [e1, e2]
        exact ih q2
theorem key_is (I : L2.Inv X pins σ H s) {d : D} {v : V} {u : Value} (r : Rep X.K fa A H v d) (h : keyOk d = true) (rv : RelV v u) : ∃ k p, D.nk d = some k ∧ v = .ref p ∧ u = .ref p ∧ (nestedKind X.prog X.w).is s.heap k p := by
  obtain ⟨k, hk, h8, ds, rfl⟩ := keyOk_of h
  have n := rep_nested I _ _ _ _ r hk rv
  cases r with
  | tup hH _ _ _ => cases rv; exact ⟨k, _, hk, rfl, rfl, n, h8⟩
  | ktup _ _ => cases rv; exact ⟨k, _, hk, rfl, rfl, n, h8⟩
theorem room8 {A : Around} (hu : A.units + 200 < cLine) : (nestedKind X.prog X.w).room A.in1 := by show A.units + 1 + 8 < cLine; omega
theorem dct_in (hu : X.A.units + 200 < cLine) (hP : fa.P = X.prog) (hw : fa.w = X.w) (I : L2.Inv X pins σ H s) (sr : SRel X.K fa A H S) {x y : V} {v u : Value} {a b : D} {kvs : List (D × D)} {Q : VK} (rx : RelV x v) (ry : RelV y u) (ra : Rep X.K fa A H x a) (rb : Rep X.K fa A H y b) (hd : dctOf S b = some kvs) (hk : keyOk a = true)
    (q : Q (.bl (dfind kvs a).isSome) H) : wpAny (model X.prog X.w) X.A (compareOp .In v u) (EP X pins σ Q) X.xe s := by
  obtain ⟨n, p, es, rfl, rfl, hpl, hn, hH, r⟩ := dct_place sr rb hd
  obtain ⟨k, kp, e1, rfl, rfl, is⟩ := key_is I ra hk rx
  cases ry
  obtain ⟨h1, h2, xs, hx, dd⟩ := dct_heap I hP hw hH r
  refine wpAny_in_heap (room8 hu) is h1 dd ?_
  have e : (atKey xs k).isSome = (dfind kvs a).isSome := by
    rcases dct_find e1 r hx with ⟨z1, z2⟩ | ⟨_, _, _, _, z1, z2, _, _⟩ <;> rw [z1, z2] <;> rfl
  rw [e]
  exact ⟨.bl _, H, I.tok _, rfl, q⟩
theorem dct_notIn (hu : X.A.units + 200 < cLine) (hP : fa.P = X.prog) (hw : fa.w = X.w) (I : L2.Inv X pins σ H s) (sr : SRel X.K fa A H S) {x y : V} {v u : Value} {a b : D} {kvs : List (D × D)} {Q : VK} (rx : RelV x v) (ry : RelV y u) (ra : Rep X.K fa A H x a) (rb : Rep X.K fa A H y b) (hd : dctOf S b = some kvs) (hk : keyOk a = true)
    (q : Q (.bl (!(dfind kvs a).isSome)) H) : wpAny (model X.prog X.w) X.A (compareOp .NotIn v u) (EP X pins σ Q) X.xe s := by
  obtain ⟨n, p, es, rfl, rfl, hpl, hn, hH, r⟩ := dct_place sr rb hd
  obtain ⟨k, kp, e1, rfl, rfl, is⟩ := key_is I ra hk rx
  cases ry
  obtain ⟨h1, h2, xs, hx, dd⟩ := dct_heap I hP hw hH r
  refine wpAny_notIn_heap (room8 hu) is h1 dd ?_
  have e : (atKey xs k).isSome = (dfind kvs a).isSome := by
    rcases dct_find e1 r hx with ⟨z1, z2⟩ | ⟨_, _, _, _, z1, z2, _, _⟩ <;> rw [z1, z2] <;> rfl
  rw [e]
  exact ⟨.bl _, H, I.tok _, rfl, q⟩
theorem dct_get (hu : X.A.units + 200 < cLine) (hP : fa.P = X.prog) (hw : fa.w = X.w) (I : L2.Inv X pins σ H s) (sr : SRel X.K fa A H S) {x y : V} {v u : Value} {a b d : D} {kvs : List (D × D)} {Q : VK} (rx : RelV x v) (ry : RelV y u) (ra : Rep X.K fa A H x a) (rb : Rep X.K fa A H y b) (hd : dctOf S a = some kvs) (hk : keyOk b = true) (hf : dfind kvs b = some d)
    (q : ∀ w, Rep X.K fa A H w d → Q w H) : s.TypeIs v "dict" ∧ wpAny (model X.prog X.w) X.A (getItem v u) (EP X pins σ Q) X.xe s := by
  obtain ⟨n, p, es, rfl, rfl, hpl, hn, hH, r⟩ := dct_place sr ra hd
  obtain ⟨k, kp, e1, rfl, rfl, is⟩ := key_is I rb hk ry
  cases rx
  obtain ⟨h1, h2, xs, hx, dd⟩ := dct_heap I hP hw hH r
  refine ⟨dd.typeIs, ?_⟩
  rcases dct_find e1 r hx with ⟨z1, z2⟩ | ⟨dv, ka, w, uu, z1, z2, z3, z4⟩
  · rw [z1] at hf; cases hf
  · rw [z1] at hf; cases hf
    exact wpAny_getItem_heap (room8 hu) is dd z2 ⟨w, H, I.tok _, z3, q w z4⟩
/-! ### stored, new -/
def esMap (es : List (NestedKey × Addr × V)) (k : NestedKey) (v : V) : List (NestedKey × Addr × V) := es.map fun e => if e.1 = k then (e.1, e.2.1, v) else e
theorem xs_map {k : NestedKey} {v : V} {u : Value} (rv : RelV v u) : ∀ {es : List (NestedKey × Addr × V)} {xs : List (NestedKey × Addr × Value)}, XsRel es xs → XsRel (esMap es k v) (xs.map (putAt k u))
  | _, _, .nil => .nil
  | _, _, .cons (a := e) (b := c) q t => by
    refine .cons ?_ (xs_map rv t)
    unfold putAt
    dsimp only
    by_cases h : c.1 = k
    · rw [if_pos h, if_pos (q.1.trans h)]; exact ⟨q.1, q.2.1, rv⟩
    · rw [if_neg h, if_neg (fun z => h (q.1.symm.trans z))]; exact q
theorem kv_map {d dv : D} {k : NestedKey} {v : V} (hk : D.nk d = some k) (r : Rep X.K fa A H v dv) : ∀ {es : List (NestedKey × Addr × V)} {kvs : List (D × D)}, Paired (RepK X.K fa A H) es kvs → Paired (RepK X.K fa A H) (esMap es k v) (kvs.map fun p => if D.eqv p.1 d then (p.1, dv) else p)
  | _, _, .nil => .nil
  | _, _, .cons (a := a) (b := b) q t => by
    refine .cons ?_ (kv_map hk r t)
    have e : D.eqv b.1 d = decide (a.1 = k) := eqv_dec q.1 hk
    dsimp only
    by_cases h : a.1 = k
    · rw [if_pos h, if_pos (by rw [e]; exact decide_eq_true h)]; exact ⟨q.1, q.2.1, q.2.2.1, r⟩
    · rw [if_neg h, if_neg (by rw [e]; simp [h])]; exact q
theorem dctO_ok {P : Program} {w : World} {H : Hp} {h : Heap} {a : Addr} {es : List (NestedKey × Addr × V)} (x : DctAt fa.P fa.w a es h) : ObjOk P w H h a (dctO fa a es) := by
  obtain ⟨h1, h2, xs, hx, o, ents, ep, h3, h4⟩ := x
  refine ⟨⟨h1, h2, xs, hx, o, ents, ep, h3, h4⟩, ⟨o, h3⟩, fun g1 g2 y k => ?_⟩
  obtain ⟨y1, y2, ys, hy, o', ents', ep', y3, y4⟩ := y
  exact ⟨y1, y2, ys, hy, o', ents', ep', k _ y3, y4⟩
theorem dct_set (hu : X.A.units + 200 < cLine) (hP : fa.P = X.prog) (hw : fa.w = X.w) (I : L2.Inv X pins σ H s) (sr : SRel X.K fa A H S) {o i v : V} {ov iv u : Value} {n : Nat} {b d : D} {kvs : List (D × D)} {Q : Hp → Prop} (ro : RelV o ov) (ri : RelV i iv) (rv : RelV v u)
    (ra : Rep X.K fa A H o (.loc n)) (rb : Rep X.K fa A H i b) (rd : Rep X.K fa A H v d) (hn : S[n]? = some (.dct kvs)) (hk : keyOk b = true) (hl : kvs.length < lineN)
    (q : ∀ H', Ext A H A H' → SRel X.K fa A H' (S.set n (.dct (dput kvs b d))) → Q H') : wpAny (model X.prog X.w) X.A (setItem ov iv u) (fun _ s' => ∃ H', L2.Inv X pins σ H' s' ∧ Q H') X.xe s := by
  obtain ⟨m, p, es, rfl, e0, hpl, hn', hH, r⟩ := dct_place sr ra (kvs := kvs) (by simp only [dctOf, hn])
  cases e0
  obtain ⟨k, kp, e1, rfl, rfl, is⟩ := key_is I rb hk ri
  cases ro
  obtain ⟨h1, h2, xs, hx, dd⟩ := dct_heap I hP hw hH r
  have hlen : xs.length = kvs.length := by rw [← Paired.length hx, Paired.length r]
  have hz : xs.length ≤ sizeLine := by rw [hlen, sizeLine_eq]; exact Nat.le_of_lt hl
  refine wpAny_setItem_heap (hsz := hz) (room8 hu) is dd fun h' dd' hs => ?_
  have fin : ∀ es', XsRel es' (storedH xs k kp u) → Paired (RepK X.K fa A H) es' (dput kvs b d) → es'.length ≤ sizeLine → ∃ H', L2.Inv X pins σ H' { s with heap := h', toks := s.toks + (nestedKind X.prog X.w).draws k } ∧ Q H' := fun es' x1 x2 x3 => by
    obtain ⟨o', ents, ep, g1, g2, g3, g4, _, g5⟩ := dd'
    have ew : Ext A H A (upd H p (dctO fa p es')) := Ext.wrote (List.mem_of_getElem? hpl) (NF.ext hH)
    refine ⟨upd H p (dctO fa p es'), d_write I (by rw [hH]; exact True.intro) hs ⟨_, g1⟩ (dctO_ok ⟨h1, x3, _, x1, o', ents, ep, g1, g2, g3, ?_, g5⟩), q _ ew (sr.wroteO hpl (.dct upd_same (RepK.imp (fun d v => Rep.mono ew d v) x2)))⟩
    rw [hP, hw]; exact g4
  rcases dct_find e1 r hx with ⟨z1, z2⟩ | ⟨dv, ka, w, uu, z1, z2, z3, z4⟩
  · refine fin (es ++ [(k, kp, v)]) ?_ ?_ ?_
    · rw [storedH_new z2]; exact Paired.snoc hx ⟨rfl, rfl, rv⟩
    · unfold dput
      rw [z1]
      exact Paired.snoc r ⟨e1, hk, rb, rd⟩
    · rw [List.length_append, Paired.length r, sizeLine_eq]
      exact hl
  · refine fin (esMap es k v) ?_ ?_ ?_
    · rw [storedH_old z2]; exact xs_map rv hx
    · unfold dput
      rw [z1]
      exact kv_map e1 rd r
    · unfold esMap; rw [List.length_map]; exact h2
theorem pe_dnewX {pos : Pos} : PE X (.Dict [] [] pos) (fun _ H Q => ∀ p, H p = none → Q (.ref p) (upd H p (dctO fa p []))) := ⟨fun pins s σ H Q I h =>
  wpAny_Dict_empty ⟨.ref s.heap.objs.size, _, I.laid (a := s.heap.objs.size) (o := dctO fa s.heap.objs.size []) (t' := s.toks) (fun _ _ q => Heap.get?_push_of_some _ q) (Nat.le_refl _) (by
    refine dctO_ok ⟨?_, Nat.zero_le _, [], .nil, _, #[], 0, Heap.get?_push_size _ rfl, ?_, rfl, rfl, List.nodup_nil⟩
    · exact beq_eq_false_iff_ne.mpr (Nat.ne_of_gt I.big)
    · exact ⟨rfl, rfl, rfl⟩), rfl, h _ (I.hok.fresh (Nat.le_refl _))⟩⟩
end
end NW
end
section
/- Dicts whose keys are texts: what the heap holds, what is asked; texts in their order. -/
namespace NW
open PySem PySem.Spec L2 PyProof.Rows
section
variable {K : PySem.W.Frag} {fa : Fa} {A : Pl} {H : Hp} {S : Store}
theorem dks_place (sr : SRel K fa A H S) {y : V} {b : D} {kvs : List (Str × D)} (rb : Rep K fa A H y b) (hd : dksOf S b = some kvs) : ∃ (n : Nat) (p : Addr) (f : Bool) (es : List (Key × V)), y = .ref p ∧ b = .loc n ∧ A.pl[n]? = some p ∧ S[n]? = some (.dks f kvs) ∧ DksAt H p f es ∧ Paired (RepS K fa A H) es kvs := by
  cases b <;> simp only [dksOf] at hd <;> first | (cases hd; done) | skip
  rename_i n
  split at hd
  · rename_i f kvs' hn
    cases hd
    cases rb with
    | loc m =>
      obtain ⟨a, ea, ro⟩ := sr.obj n _ hn
      rw [m] at ea; cases ea
      cases ro with
      | dks q r => exact ⟨n, _, _, _, rfl, rfl, m, hn, q, r⟩
  · cases hd
theorem dks_val {x : Str} : ∀ {es : List (Key × V)} {kvs : List (Str × D)}, Paired (RepS K fa A H) es kvs → (sfind kvs x = none ∧ valV es (.inr x) = none) ∨ ∃ d v, sfind kvs x = some d ∧ valV es (.inr x) = some v ∧ Rep K fa A H v d
  | _, _, .nil => .inl ⟨rfl, rfl⟩
  | _, _, .cons (a := a) (b := b) (l₁ := as) (l₂ := bs) q t => by
    obtain ⟨h1, h2⟩ := q
    by_cases hx : b.1 = x
    · refine .inr ⟨b.2, a.2, ?_, valV_pos (by rw [h1, hx]), h2⟩
      unfold sfind
      rw [List.find?_cons_of_pos (by exact decide_eq_true hx)]
      rfl
    · have e1 : sfind (b :: bs) x = sfind bs x := by
        unfold sfind
        rw [List.find?_cons_of_neg (by simp [hx])]
      have e2 : valV (a :: as) (.inr x) = valV as (.inr x) := valV_neg (by rw [h1]; exact fun z => hx (Sum.inr.inj z))
      rw [e1, e2]
      exact dks_val t
theorem dks_some {x : Str} {es : List (Key × V)} {kvs : List (Str × D)} (r : Paired (RepS K fa A H) es kvs) : (valV es (.inr x)).isSome = (sfind kvs x).isSome := by
  rcases dks_val (x := x) r with ⟨h1, h2⟩ | ⟨d, v, h1, h2, _⟩ <;> rw [h1, h2] <;> rfl
theorem dks_put {x : Str} {v : V} {d : D} (rv : Rep K fa A H v d) {es : List (Key × V)} {kvs : List (Str × D)} (r : Paired (RepS K fa A H) es kvs) : Paired (RepS K fa A H) (putK es (.inr x) v) (sput kvs x d) := by
  have key : ∀ {es : List (Key × V)} {kvs : List (Str × D)}, Paired (RepS K fa A H) es kvs → Paired (RepS K fa A H) (es.map fun kv => if kv.1 = .inr x then (kv.1, v) else kv) (kvs.map fun p => if p.1 = x then (p.1, d) else p) := by
    intro es kvs r
    induction r with
    | nil => exact .nil
    | @cons a b as bs q t ih =>
      refine .cons ?_ ih
      obtain ⟨h1, h2⟩ := q
      dsimp only
      by_cases hx : b.1 = x
      · rw [if_pos (by rw [h1, hx]), if_pos hx]; exact ⟨h1, rv⟩
      · rw [if_neg (by rw [h1]; exact fun z => hx (Sum.inr.inj z)), if_neg hx]; exact ⟨h1, h2⟩
  rcases dks_val (x := x) r with ⟨h1, h2⟩ | ⟨d', v', h1, h2, _⟩
  · rw [L2.putK_new v h2]
    unfold sput
    rw [h1]
    exact Paired.snoc r ⟨rfl, rv⟩
  · have e : putK es (.inr x) v = es.map fun kv => if kv.1 = .inr x then (kv.1, v) else kv := by
      unfold putK
      rw [valV_any, h2]
      rfl
    rw [e]
    unfold sput
    rw [h1]
    exact key r
theorem dks_keys {es : List (Key × V)} {kvs : List (Str × D)} (r : Paired (RepS K fa A H) es kvs) : es.map (·.1) = (kvs.map (·.1)).map Sum.inr := by
  induction r with
  | nil => rfl
  | cons q t ih => rw [List.map_cons, List.map_cons, List.map_cons, ih, q.1]
theorem dks_at {es : List (Key × V)} {kvs : List (Str × D)} (r : Paired (RepS K fa A H) es kvs) {i : Nat} {q : Str × D} (h : kvs[i]? = some q) : ∃ v, es[i]? = some (.inr q.1, v) ∧ Rep K fa A H v q.2 := by
  induction r generalizing i with
  | nil => simp at h
  | @cons a b as bs p t ih =>
    cases i with
    | zero =>
      simp only [List.getElem?_cons_zero, Option.some.injEq] at h
      subst h
      refine ⟨a.2, ?_, p.2⟩
      simp only [List.getElem?_cons_zero, Option.some.injEq]
      exact Prod.ext p.1 rfl
    | succ j =>
      simp only [List.getElem?_cons_succ] at h ⊢
      exact ih h
end
section
variable {X : Cx} {pins : List (Addr × Obj)} {σ : L2.St} {H : Hp} {s : Shared} {fa : Fa} {A : Pl} {S : Store}
theorem inDks_some {S : Store} {a b : D} {t : Bool} (h : inDks S a b = some t) : ∃ kvs x, dksOf S b = some kvs ∧ a = .str x ∧ t = (sfind kvs x).isSome := by
  unfold inDks at h
  split at h
  · rename_i kvs x hk
    exact ⟨kvs, x, hk, rfl, by simpa using h.symm⟩
  · cases h
theorem dks_in (hu : X.A.units + 200 < cLine) (I : L2.Inv X pins σ H s) (sr : SRel X.K fa A H S) {x y : V} {v u : Value} {a b : D} {t : Bool} {Q : VK} (rx : RelV x v) (ry : RelV y u) (ra : Rep X.K fa A H x a) (rb : Rep X.K fa A H y b) (h : inDks S a b = some t)
    (q : Q (.bl t) H) : wpAny (model X.prog X.w) X.A (compareOp .In v u) (EP X pins σ Q) X.xe s := by
  obtain ⟨kvs, z, hd, rfl, rfl⟩ := inDks_some h
  obtain ⟨n, p, f, es, rfl, rfl, hpl, hn, hH, r⟩ := dks_place sr rb hd
  cases ra
  cases ry
  refine d_in (o := valV es (.inr z)) (by omega) I (.inl ⟨es, .inr z, hH.rd, rfl, rfl⟩) rx fun s' I' => ?_
  rw [dks_some r]
  exact ⟨.bl _, H, I', rfl, q⟩
theorem dks_notIn (hu : X.A.units + 200 < cLine) (I : L2.Inv X pins σ H s) (sr : SRel X.K fa A H S) {x y : V} {v u : Value} {a b : D} {t : Bool} {Q : VK} (rx : RelV x v) (ry : RelV y u) (ra : Rep X.K fa A H x a) (rb : Rep X.K fa A H y b) (h : inDks S a b = some t)
    (q : Q (.bl (!t)) H) : wpAny (model X.prog X.w) X.A (compareOp .NotIn v u) (EP X pins σ Q) X.xe s := by
  obtain ⟨kvs, z, hd, rfl, rfl⟩ := inDks_some h
  obtain ⟨n, p, f, es, rfl, rfl, hpl, hn, hH, r⟩ := dks_place sr rb hd
  cases ra
  cases ry
  refine d_notIn (o := valV es (.inr z)) (by omega) I (.inl ⟨es, .inr z, hH.rd, rfl, rfl⟩) rx fun s' I' => ?_
  rw [dks_some r]
  exact ⟨.bl _, H, I', rfl, q⟩
theorem dks_get (hu : X.A.units + 200 < cLine) (I : L2.Inv X pins σ H s) (sr : SRel X.K fa A H S) {x y : V} {v u : Value} {a d : D} {z : Str} {kvs : List (Str × D)} {Q : VK} (rx : RelV x v) (ry : RelV y u) (ra : Rep X.K fa A H x a) (rb : Rep X.K fa A H y (.str z)) (hd : dksOf S a = some kvs) (hf : sfind kvs z = some d)
    (q : ∀ w, Rep X.K fa A H w d → Q w H) : s.TypeIs v "dict" ∧ wpAny (model X.prog X.w) X.A (getItem v u) (EP X pins σ Q) X.xe s := by
  obtain ⟨n, p, f, es, rfl, rfl, hpl, hn, hH, r⟩ := dks_place sr ra hd
  cases rb
  cases rx
  rcases dks_val (x := z) r with ⟨h1, h2⟩ | ⟨d', w, h1, h2, rw'⟩
  · rw [h1] at hf; cases hf
  · rw [h1] at hf; cases hf
    have g : DGet H p (.str z) (some w) := .inl ⟨es, .inr z, hH.rd, rfl, h2.symm⟩
    exact ⟨dict_typeIs I g, d_getItem (by omega) I g ry fun w' s' I' r' => ⟨w, H, I', r', q w rw'⟩⟩
theorem dks_set (hu : X.A.units + 200 < cLine) (I : L2.Inv X pins σ H s) (sr : SRel X.K fa A H S) {o i v : V} {ov iv u : Value} {n : Nat} {z : Str} {d : D} {kvs : List (Str × D)} {Q : Hp → Prop} (ro : RelV o ov) (ri : RelV i iv) (rv : RelV v u)
    (ra : Rep X.K fa A H o (.loc n)) (rb : Rep X.K fa A H i (.str z)) (rd : Rep X.K fa A H v d) (hn : S[n]? = some (.dks false kvs)) (hl : kvs.length < lineN)
    (q : ∀ H', Ext A H A H' → SRel X.K fa A H' (S.set n (.dks false (sput kvs z d))) → Q H') : wpAny (model X.prog X.w) X.A (setItem ov iv u) (fun _ s' => ∃ H', L2.Inv X pins σ H' s' ∧ Q H') X.xe s := by
  obtain ⟨m, p, f, es, rfl, e0, hpl, hn', hH, r⟩ := dks_place sr ra (kvs := kvs) (by simp only [dksOf, hn])
  cases e0
  rw [hn] at hn'; cases hn'
  have hH : H p = some (.dK es) := hH
  cases rb
  cases ro
  have hle : es.length < sizeLine := by rw [Paired.length r, sizeLine_eq]; exact hl
  refine d_setItem (by omega) I (.inl ⟨es, .inr z, hH, rfl, hle, rfl⟩) ri rv fun s' I' => ⟨_, I', q _ (Ext.wrote (List.mem_of_getElem? hpl) (NF.dK hH)) (sr.wroteO hpl ?_)⟩
  refine .dks (f := false) (by show (upd H p _) p = _; exact upd_same) (RepS.imp (fun d v => Rep.carry (A := A) (A1 := A) (fun _ _ m => m) (wrote_rep (List.mem_of_getElem? hpl)) d v) (dks_put rd r))
end
/-! ### texts in their order -/
theorem lt_irr : ∀ l : List Nat, ltCps l l = false
  | [] => rfl
  | a :: l => by simp only [ltCps, Nat.lt_irrefl, decide_false, beq_self_eq_true, Bool.true_and, Bool.false_or, lt_irr l]
theorem lt_total : ∀ l m : List Nat, ltCps l m = false → ltCps m l = false → l = m
  | [], [], _, _ => rfl
  | [], _ :: _, h, _ => by simp only [ltCps] at h; cases h
  | _ :: _, [], _, h => by simp only [ltCps] at h; cases h
  | a :: l, b :: m, h, h2 => by
    simp only [ltCps, Bool.or_eq_false_iff, decide_eq_false_iff_not, Bool.and_eq_false_iff, beq_eq_false_iff_ne] at h h2
    have e : a = b := by omega
    subst e
    rw [lt_total l m (h.2.resolve_left fun z => z rfl) (h2.2.resolve_left fun z => z rfl)]
theorem lt_asym : ∀ l m : List Nat, ltCps l m = true → ltCps m l = false
  | [], [], h => by simp only [ltCps] at h; cases h
  | [], _ :: _, _ => rfl
  | _ :: _, [], h => by simp only [ltCps] at h; cases h
  | a :: l, b :: m, h => by
    simp only [ltCps, Bool.or_eq_true, decide_eq_true_eq, Bool.and_eq_true, beq_iff_eq] at h
    simp only [ltCps, Bool.or_eq_false_iff, decide_eq_false_iff_not, Bool.and_eq_false_iff, beq_eq_false_iff_ne]
    rcases h with h | ⟨rfl, h⟩
    · exact ⟨by omega, .inl (by omega)⟩
    · exact ⟨by omega, .inr (lt_asym l m h)⟩
/-- not less goes over -/
theorem ge_trans : ∀ x y z : List Nat, ltCps y x = false → ltCps z y = false → ltCps z x = false
  | [], _, [], _, _ => rfl
  | [], y, _ :: _, _, _ => rfl
  | _ :: _, [], _, h, _ => by simp only [ltCps] at h; cases h
  | _ :: _, _ :: _, [], _, h => by simp only [ltCps] at h; cases h
  | a :: x, b :: y, c :: z, h, h2 => by
    simp only [ltCps, Bool.or_eq_false_iff, decide_eq_false_iff_not, Bool.and_eq_false_iff, beq_eq_false_iff_ne] at h h2 ⊢
    refine ⟨by omega, ?_⟩
    by_cases e : c = a
    · right
      have e1 : b = a := by omega
      have e2 : c = b := by omega
      exact ge_trans x y z (h.2.resolve_left fun z => z e1) (h2.2.resolve_left fun z => z e2)
    · exact .inl e
theorem leS_trans (a b c : Str) (h : leS a b = true) (h2 : leS b c = true) : leS a c = true := by
  unfold leS at *
  simp only [Bool.not_eq_true'] at *
  exact ge_trans _ _ _ h h2
theorem leS_total (a b : Str) : (leS a b || leS b a) = true := by
  unfold leS
  cases h : ltCps b.cps.toList a.cps.toList
  · rfl
  · simp only [lt_asym _ _ h, Bool.not_true, Bool.not_false, Bool.or_true]
theorem leS_anti {a b : Str} (h : leS a b = true) (h2 : leS b a = true) : a = b := by
  unfold leS at *
  simp only [Bool.not_eq_true'] at *
  exact Str.ext' (Array.toList_inj.mp (lt_total _ _ h2 h))
theorem rising_pw : ∀ (l : List Str) (p : Str), risingS p l = true → (p :: l).Pairwise (fun a b => leS a b = true)
  | [], p, _ => by simp
  | x :: l, p, h => by
    simp only [risingS, Bool.and_eq_true] at h
    have ih := rising_pw l x h.2
    rw [List.pairwise_cons] at ih ⊢
    refine ⟨fun y hy => ?_, List.pairwise_cons.mpr ih⟩
    have h0 : leS p x = true := h.1
    rcases List.mem_cons.mp hy with e | hy
    · rw [e]; exact h0
    · exact leS_trans _ _ _ h0 (ih.1 y hy)
theorem sorted_pw {l : List Str} (h : sortedS l = true) : l.Pairwise (fun a b => leS a b = true) := by
  cases l with
  | nil => exact .nil
  | cons x l => exact rising_pw l x h
theorem perm_eq : ∀ {l m : List Str}, l.Perm m → l.Pairwise (fun a b => leS a b = true) → m.Pairwise (fun a b => leS a b = true) → l = m
  | [], m, h, _, _ => (List.nil_perm.mp h).symm
  | a :: l, [], h, _, _ => absurd (List.perm_nil.mp h) (by simp)
  | a :: l, b :: m, h, h1, h2 => by
    have e : a = b := by
      have ha : a ∈ b :: m := h.subset List.mem_cons_self
      have hb : b ∈ a :: l := h.symm.subset List.mem_cons_self
      rcases List.mem_cons.mp ha with e | ha
      · exact e
      · rcases List.mem_cons.mp hb with e | hb
        · exact e.symm
        · exact leS_anti ((List.pairwise_cons.mp h1).1 b hb) ((List.pairwise_cons.mp h2).1 a ha)
    subst e
    rw [perm_eq (List.Perm.cons_inv h) (List.pairwise_cons.mp h1).2 (List.pairwise_cons.mp h2).2]
theorem sortS_of {xs ys : List Str} (h : ys.Perm xs) (h2 : sortedS ys = true) : ys = sortS xs :=
  perm_eq (h.trans (List.mergeSort_perm xs leS).symm) (sorted_pw h2) (List.pairwise_mergeSort leS_trans leS_total xs)
end NW
end
section
/- The operations, by values. -/
namespace NW
open PySem PySem.Spec L2
variable {K : PySem.W.Frag} {fa : Fa} {A A1 A2 A' : Pl} {H H1 H2 H' : Hp} {σ : L2.St} {G : Env} {Sx : Store}

/-! ### plain data -/
mutual
theorem D.lay : ∀ d : D, d.ok = true → d.py.canLay0 = true
  | .non, _ => by simp only [D.py, PyData.canLay0]
  | .bl _, _ => by simp only [D.py, PyData.canLay0]
  | .int _, _ => by simp only [D.py, PyData.canLay0]
  | .str x, h => by simp only [D.ok] at h; simp only [D.py, PyData.canLay0]; exact h
  | .tup ds, h => by simp only [D.ok] at h; simp only [D.py, PyData.canLay0]; exact D.layL ds h
  | .lst ds, h => by simp only [D.ok] at h; simp only [D.py, PyData.canLay0]; exact D.layL ds h
  | .loc _, h => by simp only [D.ok] at h; cases h
  | .fn _, h => by simp only [D.ok] at h; cases h
  | .scr _, h => by simp only [D.ok] at h; cases h
theorem D.layL : ∀ ds : List D, D.okL ds = true → PyData.canLayAll0 (D.pyL ds) = true
  | [], _ => by simp only [D.pyL, PyData.canLayAll0]
  | d :: ds, h => by
    simp only [D.okL, Bool.and_eq_true] at h
    simp only [D.pyL, PyData.canLayAll0, Bool.and_eq_true]
    exact ⟨D.lay d h.1, D.layL ds h.2⟩
end
mutual
theorem D.dep : ∀ d : D, d.py.depth = d.depth
  | .non => by simp only [D.py, PyData.depth, D.depth]
  | .bl _ => by simp only [D.py, PyData.depth, D.depth]
  | .int _ => by simp only [D.py, PyData.depth, D.depth]
  | .str x => by simp only [D.py, PyData.depth, D.depth]
  | .tup ds => by simp only [D.py, PyData.depth, D.depth, D.depL ds]
  | .lst ds => by simp only [D.py, PyData.depth, D.depth, D.depL ds]
  | .loc _ => by simp only [D.py, PyData.depth, D.depth]
  | .fn _ => by simp only [D.py, PyData.depth, D.depth]
  | .scr _ => by simp only [D.py, PyData.depth, D.depth]
theorem D.depL : ∀ ds : List D, PyData.depthAll (D.pyL ds) = D.depthL ds
  | [] => by simp only [D.pyL, PyData.depthAll, D.depthL]
  | d :: ds => by simp only [D.pyL, PyData.depthAll, D.depthL, D.dep d, D.depL ds]
end
mutual
theorem D.eqs : ∀ a b : D, a.ok = true → b.ok = true → PyData.eqv a.py b.py = D.eqv a b
  | a, .loc _, _, h => by simp only [D.ok] at h; cases h
  | a, .fn _, _, h => by simp only [D.ok] at h; cases h
  | a, .scr _, _, h => by simp only [D.ok] at h; cases h
  | .loc _, b, h, _ => by simp only [D.ok] at h; cases h
  | .fn _, b, h, _ => by simp only [D.ok] at h; cases h
  | .scr _, b, h, _ => by simp only [D.ok] at h; cases h
  | .non, b, _, h => by cases b <;> first | (simp only [D.ok] at h; cases h; done) | simp only [D.py, PyData.eqv, D.eqv]
  | .bl _, b, _, h => by cases b <;> first | (simp only [D.ok] at h; cases h; done) | simp only [D.py, PyData.eqv, D.eqv]
  | .int _, b, _, h => by cases b <;> first | (simp only [D.ok] at h; cases h; done) | simp only [D.py, PyData.eqv, D.eqv]
  | .str x, b, _, h => by cases b <;> first | (simp only [D.ok] at h; cases h; done) | simp only [D.py, PyData.eqv, D.eqv]
  | .tup xs, .tup ys, h, h2 => by
    simp only [D.ok] at h h2
    simp only [D.py, PyData.eqv, D.eqv]
    exact D.eqsL xs ys h h2
  | .lst xs, .lst ys, h, h2 => by
    simp only [D.ok] at h h2
    simp only [D.py, PyData.eqv, D.eqv]
    exact D.eqsL xs ys h h2
  | .tup xs, .non, _, _ => by simp only [D.py, PyData.eqv, D.eqv]
  | .tup xs, .bl _, _, _ => by simp only [D.py, PyData.eqv, D.eqv]
  | .tup xs, .int _, _, _ => by simp only [D.py, PyData.eqv, D.eqv]
  | .tup xs, .str _, _, _ => by simp only [D.py, PyData.eqv, D.eqv]
  | .tup xs, .lst _, _, _ => by simp only [D.py, PyData.eqv, D.eqv]
  | .lst xs, .non, _, _ => by simp only [D.py, PyData.eqv, D.eqv]
  | .lst xs, .bl _, _, _ => by simp only [D.py, PyData.eqv, D.eqv]
  | .lst xs, .int _, _, _ => by simp only [D.py, PyData.eqv, D.eqv]
  | .lst xs, .str _, _, _ => by simp only [D.py, PyData.eqv, D.eqv]
  | .lst xs, .tup _, _, _ => by simp only [D.py, PyData.eqv, D.eqv]
theorem D.eqsL : ∀ xs ys : List D, D.okL xs = true → D.okL ys = true → PyData.eqvAll (D.pyL xs) (D.pyL ys) = D.eqvL xs ys
  | [], [], _, _ => by simp only [D.pyL, PyData.eqvAll, D.eqvL]
  | [], _ :: _, _, _ => by simp only [D.pyL, PyData.eqvAll, D.eqvL]
  | _ :: _, [], _, _ => by simp only [D.pyL, PyData.eqvAll, D.eqvL]
  | x :: xs, y :: ys, h, h2 => by
    simp only [D.okL, Bool.and_eq_true] at h h2
    simp only [D.pyL, PyData.eqvAll, D.eqvL]
    rw [D.eqs x y h.1 h2.1, D.eqsL xs ys h.2 h2.2]
end
mutual
theorem Rep.dp : ∀ (d : D) (v : V), d.ok = true → Rep K fa A H v d → Dp K H v d.py
  | .non, _, _, h => by cases h; simp only [D.py]; exact .non
  | .bl b, _, _, h => by cases h; simp only [D.py]; exact .bl b
  | .int i, _, _, h => by cases h; simp only [D.py]; exact .int i
  | .str x, _, _, h => by cases h; simp only [D.py]; exact .str x
  | .tup ds, _, q, h => by
    simp only [D.ok] at q
    simp only [D.py]
    cases h with
    | tup h n m r => exact .tup (SqT.of h) (RepL.dp ds _ q r)
    | ktup k r => exact .tup (.inr k) (RepL.dp ds _ q r)
  | .lst ds, _, q, h => by
    simp only [D.ok] at q
    simp only [D.py]
    cases h with
    | lst h n m r => exact .lst (SqL.of h) (RepL.dp ds _ q r)
  | .loc _, _, q, _ => by simp only [D.ok] at q; cases q
  | .fn _, _, q, _ => by simp only [D.ok] at q; cases q
  | .scr _, _, q, _ => by simp only [D.ok] at q; cases q
theorem RepL.dp : ∀ (ds : List D) (vs : List V), D.okL ds = true → RepL K fa A H vs ds → DpAll K H vs (D.pyL ds)
  | [], _, _, h => by cases h; simp only [D.pyL]; exact .nil
  | d :: ds, _, q, h => by
    simp only [D.okL, Bool.and_eq_true] at q
    simp only [D.pyL]
    cases h with
    | cons h1 h2 => exact .cons (Rep.dp d _ q.1 h1) (RepL.dp ds _ q.2 h2)
end
theorem pyL_any (d : D) (hd : d.ok = true) : ∀ ds : List D, D.okL ds = true → ((D.pyL ds).any fun z => PyData.eqv z d.py) = ds.any fun z => D.eqv z d
  | [], _ => rfl
  | x :: xs, h => by
    simp only [D.okL, Bool.and_eq_true] at h
    simp only [D.pyL, List.any_cons, D.eqs x d h.1 hd, pyL_any d hd xs h.2]

/-! ### lists and tuples -/
theorem listOf_rep {S : Store} (s : SRel K fa A H S) {v : V} {d : D} {ds : List D} (r : Rep K fa A H v d) (e : listOf S d = some ds) : ∃ a xs, v = .ref a ∧ H a = some (.lst xs) ∧ RepL K fa A H xs ds := by
  cases r with
  | lst h n m r => cases e; exact ⟨_, _, rfl, h, r⟩
  | loc m =>
    rename_i a n
    simp only [listOf] at e
    split at e
    · rename_i ds' hn
      cases e
      obtain ⟨a', ea, ro⟩ := s.obj n _ hn
      rw [m] at ea; cases ea
      cases ro with
      | lst q r => exact ⟨_, _, rfl, q, r⟩
    · cases e
  | non => cases e
  | bl => cases e
  | int => cases e
  | str => cases e
  | tup _ _ _ _ => cases e
  | ktup _ _ => cases e
  | fn => cases e
  | scr _ _ _ => cases e
  | kscr _ => cases e
theorem seqOf_rep {S : Store} (s : SRel K fa A H S) {v : V} {d : D} {ds : List D} (r : Rep K fa A H v d) (e : seqOf S d = some ds) : ∃ a xs, v = .ref a ∧ (SqL K H a xs ∨ SqT K H a xs) ∧ RepL K fa A H xs ds := by
  cases r with
  | tup h n m r => cases e; exact ⟨_, _, rfl, .inr (SqT.of h), r⟩
  | ktup k r => cases e; exact ⟨_, _, rfl, .inr (.inr k), r⟩
  | scr h n m => cases e; exact ⟨_, _, rfl, .inl (.inl h), RepL.ints _⟩
  | kscr k => cases e; exact ⟨_, _, rfl, .inl (.inr k), RepL.ints _⟩
  | lst h n m r => cases e; exact ⟨_, _, rfl, .inl (SqL.of h), r⟩
  | loc m =>
    obtain ⟨a, xs, e1, e2, e3⟩ := listOf_rep s (.loc m) (show listOf S (.loc _) = some ds from e)
    exact ⟨a, xs, e1, .inl (SqL.of e2), e3⟩
  | non => cases e
  | bl => cases e
  | int => cases e
  | str => cases e
  | fn => cases e
theorem flat_rep {S : Store} (s : SRel K fa A H S) {v : V} {d : D} (r : Rep K fa A H v d) (q : (flat S d).ok = true) : Dp K H v (flat S d).py := by
  cases d with
  | loc n =>
    simp only [flat] at q ⊢
    split at q
    · rename_i ds hn
      obtain ⟨a, xs, rfl, h, rr⟩ := listOf_rep (ds := ds) s r (by simp only [listOf, hn])
      simp only [D.ok] at q
      simp only [D.py]
      exact .lst (SqL.of h) (RepL.dp ds _ q rr)
    · simp only [D.ok] at q; cases q
  | non => exact Rep.dp _ _ q r
  | bl => exact Rep.dp _ _ q r
  | int => exact Rep.dp _ _ q r
  | str => exact Rep.dp _ _ q r
  | tup => exact Rep.dp _ _ q r
  | lst => exact Rep.dp _ _ q r
  | fn => exact Rep.dp _ _ q r
  | scr => exact Rep.dp _ _ q r
theorem line_eq : lineN = sizeLine := by rw [sizeLine_eq]; rfl

/-- the answer is d, nothing else changed -/
def Ans (K : PySem.W.Frag) (fa : Fa) (A : Pl) (H : Hp) (S : Store) (d : D) (Q : VK) : Prop := ∀ v H', Ext A H A H' → SRel K fa A H' S → Rep K fa A H' v d → Q v H'
theorem Ans.here {S : Store} {d : D} {Q : VK} (q : Ans K fa A H S d Q) (s : SRel K fa A H S) {v : V} (r : Rep K fa A H v d) : Q v H := q v H Ext.refl s r
theorem Ans.lst {S : Store} {ds : List D} {Q : VK} (q : Ans K fa A H S (.lst ds) Q) (s : SRel K fa A H S) {xs : List V} (r : RepL K fa A H xs ds) {p : Addr} (n : H p = none) : Q (.ref p) (upd H p (.lst xs)) :=
  q _ _ (Ext.laid s n) (s.laid n) (.lst upd_same (s.fresh n) (s.freshB n) (RepL.mono (Ext.laid s n) _ _ r))
theorem Ans.tup {S : Store} {ds : List D} {Q : VK} (q : Ans K fa A H S (.tup ds) Q) (s : SRel K fa A H S) {xs : List V} (r : RepL K fa A H xs ds) {p : Addr} (n : H p = none) : Q (.ref p) (upd H p (.tup xs)) :=
  q _ _ (Ext.laid s n) (s.laid n) (.tup upd_same (s.fresh n) (s.freshB n) (RepL.mono (Ext.laid s n) _ _ r))
theorem tup_sq {v : V} {ds : List D} (r : Rep K fa A H v (.tup ds)) : ∃ a xs, v = .ref a ∧ SqT K H a xs ∧ RepL K fa A H xs ds := by
  cases r with
  | tup h n m r => exact ⟨_, _, rfl, SqT.of h, r⟩
  | ktup k r => exact ⟨_, _, rfl, .inr k, r⟩

def rBin (K : PySem.W.Frag) (fa : Fa) (op : Operator) : R2 := fun x y H Q => ∃ A S a b d, SRel K fa A H S ∧ Rep K fa A H x a ∧ Rep K fa A H y b ∧ binOp op S a b = some d ∧ Ans K fa A H S d Q
section
variable {X : Cx}
theorem op_bin (op : Operator) : OpR X (binaryOp op) (rBin X.K fa op) := by
  intro pins s σ H x y v u Q I rx ry h
  obtain ⟨A, S, a, b, d, sr, ra, rb, e, q⟩ := h
  unfold binOp at e
  split at e
  · rename_i i j
    obtain ⟨r, hr, rfl⟩ := Option.map_eq_some_iff.mp e
    cases ra
    cases rb
    have fin : Q (.int r) H := q.here sr (.int r)
    cases op with
    | Add => simp only [binInt] at hr; cases hr; exact op_add pins s σ H _ _ v u Q I rx ry ⟨i, j, rfl, rfl, fin⟩
    | Sub => simp only [binInt] at hr; cases hr; exact op_sub pins s σ H _ _ v u Q I rx ry ⟨i, j, rfl, rfl, fin⟩
    | Mult =>
      simp only [binInt] at hr
      split at hr
      · rename_i hm
        cases hr
        unfold mulOk at hm
        simp only [Bool.or_eq_true, decide_eq_true_eq] at hm
        rcases hm with hm | hm | hm
        · exact op_mul pins s σ H _ _ v u Q I rx ry ⟨i, j, rfl, rfl, .inl hm, fin⟩
        · exact op_mul pins s σ H _ _ v u Q I rx ry ⟨i, j, rfl, rfl, .inr hm, fin⟩
        · exact op_mulW pins s σ H _ _ v u Q I rx ry ⟨i, j, rfl, rfl, hm, fin⟩
      · cases hr
    | FloorDiv =>
      simp only [binInt] at hr
      split at hr
      · rename_i hm
        cases hr
        unfold divOk at hm
        simp only [Bool.or_eq_true, Bool.and_eq_true, decide_eq_true_eq] at hm
        rcases hm with ⟨h0, hm | hm⟩
        · exact op_fdiv pins s σ H _ _ v u Q I rx ry ⟨i, j, rfl, rfl, ⟨h0, hm⟩, fin⟩
        · exact op_fdivW pins s σ H _ _ v u Q I rx ry ⟨i, j, rfl, rfl, ⟨h0, hm⟩, fin⟩
      · cases hr
    | Mod =>
      simp only [binInt] at hr
      split at hr
      · rename_i hm
        cases hr
        exact op_mod pins s σ H _ _ v u Q I rx ry ⟨i, j, rfl, rfl, hm, fin⟩
      · cases hr
    | Pow =>
      simp only [binInt] at hr
      split at hr
      · rename_i hm
        cases hr
        exact op_pow pins s σ H _ _ v u Q I rx ry ⟨i, j, rfl, rfl, (by unfold powOk at hm; have hm := of_decide_eq_true hm; exact hm), fin⟩
      · cases hr
    | LShift =>
      simp only [binInt] at hr
      split at hr
      · rename_i hm
        cases hr
        exact op_shl pins s σ H _ _ v u Q I rx ry ⟨i, j, rfl, rfl, (by unfold powOk at hm; have hm := of_decide_eq_true hm; exact hm), fin⟩
      · cases hr
    | RShift =>
      simp only [binInt] at hr
      split at hr
      · rename_i hm
        cases hr
        exact op_shr pins s σ H _ _ v u Q I rx ry ⟨i, j, rfl, rfl, hm, fin⟩
      · cases hr
    | BitAnd => simp only [binInt] at hr; cases hr; exact op_and pins s σ H _ _ v u Q I rx ry ⟨i, j, rfl, rfl, fin⟩
    | BitOr => simp only [binInt] at hr; cases hr; exact op_or pins s σ H _ _ v u Q I rx ry ⟨i, j, rfl, rfl, fin⟩
    | BitXor => simp only [binInt] at hr; cases hr; exact op_xor pins s σ H _ _ v u Q I rx ry ⟨i, j, rfl, rfl, fin⟩
    | Div => simp only [binInt] at hr; cases hr
    | MatMult => simp only [binInt] at hr; cases hr
  · rename_i xs ys
    unfold binTup at e
    split at e
    · split at e
      · rename_i hz
        cases e
        obtain ⟨a, vx, rfl, hx, rx'⟩ := tup_sq ra
        obtain ⟨b, vy, rfl, hy, ry'⟩ := tup_sq rb
        refine op_catA pins s σ H _ _ v u Q I rx ry ⟨a, b, vx, vy, rfl, rfl, hx, hy, ?_, fun e => ?_, fun _ e => ?_, fun _ _ p hp => q.tup sr (rx'.append ry') hp⟩
        · rw [rx'.length, ry'.length, ← line_eq]; exact hz
        · subst e
          have : xs = [] := by cases xs with | nil => rfl | cons _ _ => cases rx'
          subst this
          exact q.here sr rb
        · subst e
          have : ys = [] := by cases ys with | nil => rfl | cons _ _ => cases ry'
          subst this
          rw [List.append_nil] at q
          exact q.here sr ra
      · cases e
    · cases e
  · rename_i xs k
    split at e
    · rename_i hop
      subst hop
      unfold repTup at e
      split at e
      · rename_i hc
        cases e
        obtain ⟨a, vx, rfl, hx, rx'⟩ := tup_sq ra
        cases rb
        refine op_repT pins s σ H _ _ v u Q I rx ry ⟨a, k, vx, rfl, rfl, hx, ?_, hc.2.1, hc.2.2.1, ?_, fun p hp => q.tup sr (rx'.rep _) hp⟩
        · rintro rfl
          cases rx'
          exact hc.1 rfl
        · rw [rx'.length]; exact hc.2.2.2
      · cases e
    · cases e
  · rename_i z1 z2
    split at e
    · rename_i hc
      obtain ⟨hop, hz⟩ := hc
      subst hop
      cases e
      cases ra
      cases rb
      exact op_add_str pins s σ H _ _ v u Q I rx ry ⟨z1, z2, rfl, rfl, by rw [← line_eq]; exact hz, q.here sr (.str _)⟩
    · cases e
  · rename_i k _ _
    split at e
    · rename_i hop
      subst hop
      obtain ⟨ds, hd, e⟩ := Option.bind_eq_some_iff.mp e
      unfold repLst at e
      split at e
      · rename_i hc
        cases e
        obtain ⟨l, xs, rfl, hl, rl⟩ := listOf_rep sr ra hd
        cases rb
        refine op_rep pins s σ H _ _ v u Q I rx ry ⟨l, k, xs, rfl, rfl, hl, by omega, by omega, ?_, fun p hp => q.lst sr (rl.rep _) hp⟩
        rw [rl.length, ← line_eq]; exact hc.2.2
      · cases e
    · cases e
  · obtain ⟨ds, hd, e⟩ := Option.bind_eq_some_iff.mp e
    obtain ⟨es, he, e⟩ := Option.bind_eq_some_iff.mp e
    unfold binLst at e
    split at e
    · split at e
      · rename_i hz
        cases e
        obtain ⟨l, xs, rfl, hl, rl⟩ := listOf_rep sr ra hd
        obtain ⟨m, ys, rfl, hm, rm⟩ := listOf_rep sr rb he
        exact op_cat pins s σ H _ _ v u Q I rx ry ⟨l, m, xs, ys, rfl, rfl, hl, hm, by rw [rl.length, rm.length, ← line_eq]; exact hz, fun p hp => q.lst sr (rl.append rm) hp⟩
      · cases e
    · cases e

/-! ### comparisons -/
def rCmp (K : PySem.W.Frag) (fa : Fa) (op : CmpOp) : R2 := fun x y H Q => ∃ A S a b k, SRel K fa A H S ∧ Rep K fa A H x a ∧ Rep K fa A H y b ∧ cmpOp op S a b = some k ∧ Q (.bl k) H
theorem room_eq {A : Around} {a b : D} (hu : A.units + 200 < cLine) (h : min a.depth b.depth ≤ 100) : A.units + min a.py.depth b.py.depth < cLine := by
  rw [D.dep, D.dep]; omega
theorem dp_in {v : V} {ds : List D} {S : Store} {d : D} (s : SRel K fa A H S) (r : Rep K fa A H v d) (e : seqOf S d = some ds) (q : D.okL ds = true) : Dp K H v (.list (D.pyL ds)) ∨ Dp K H v (.tuple (D.pyL ds)) := by
  obtain ⟨a, xs, rfl, h | h, r⟩ := seqOf_rep s r e
  · exact .inl (.lst h (RepL.dp ds _ q r))
  · exact .inr (.tup h (RepL.dp ds _ q r))
theorem isNone_rep {v : V} {d : D} (r : Rep K fa A H v d) : decide (v = .non) = isNone d := by cases r <;> rfl
theorem op_is_bl' : OpR X (compareOp .Is) (fun x y H Q => ∃ a b, x = .bl a ∧ y = .bl b ∧ Q (.bl (decide (a = b))) H) := by
  intro pins s σ H x y v u Q I rx ry h
  obtain ⟨a, b, rfl, rfl, q⟩ := h
  cases rx; cases ry
  have fin : EP X pins σ Q (.bool (decide (a = b))) s := ⟨.bl _, H, I, rfl, q⟩
  cases a <;> cases b <;> exact wpAny_pure fin
theorem op_isnot_bl' : OpR X (compareOp .IsNot) (fun x y H Q => ∃ a b, x = .bl a ∧ y = .bl b ∧ Q (.bl (!decide (a = b))) H) := by
  intro pins s σ H x y v u Q I rx ry h
  obtain ⟨a, b, rfl, rfl, q⟩ := h
  cases rx; cases ry
  have fin : EP X pins σ Q (.bool (!decide (a = b))) s := ⟨.bl _, H, I, rfl, q⟩
  cases a <;> cases b <;> exact wpAny_pure fin
theorem int_cmp {a b : D} {op : CmpOp} {k : Bool} (h : ordOp op a b = some k) : ∃ i j, a = .int i ∧ b = .int j ∧ cmpInt op i j = some k := by
  unfold ordOp at h
  split at h
  · exact ⟨_, _, rfl, rfl, h⟩
  · cases h
theorem op_cmp (op : CmpOp) (hu : X.A.units + 200 < cLine) (hP : fa.P = X.prog) (hw : fa.w = X.w) : OpR X (compareOp op) (rCmp X.K fa op) := by
  intro pins s σ H x y v u Q I rx ry h
  obtain ⟨A, S, a, b, k, sr, ra, rb, e, q⟩ := h
  have fin : EP X pins σ Q (.bool k) s := ⟨.bl k, H, I, rfl, q⟩
  cases op with
  | Eq =>
    simp only [cmpOp] at e
    split at e
    · rename_i hk
      cases e
      unfold eqOk at hk
      simp only [Bool.and_eq_true, decide_eq_true_eq] at hk
      obtain ⟨as, r1⟩ := Dp.reads I _ x v (flat_rep sr ra hk.1.1) rx
      obtain ⟨bs, r2⟩ := Dp.reads I _ y u (flat_rep sr rb hk.1.2) ry
      refine SeqAt.compareEq_reads r1 r2 (D.lay _ hk.1.1) (D.lay _ hk.1.2) (room_eq hu hk.2) ?_
      rw [D.eqs _ _ hk.1.1 hk.1.2]
      exact fin
    · cases e
  | NotEq =>
    simp only [cmpOp] at e
    split at e
    · rename_i hk
      cases e
      unfold eqOk at hk
      simp only [Bool.and_eq_true, decide_eq_true_eq] at hk
      obtain ⟨as, r1⟩ := Dp.reads I _ x v (flat_rep sr ra hk.1.1) rx
      obtain ⟨bs, r2⟩ := Dp.reads I _ y u (flat_rep sr rb hk.1.2) ry
      refine SeqAt.compareNe_reads r1 r2 (D.lay _ hk.1.1) (D.lay _ hk.1.2) (room_eq hu hk.2) ?_
      rw [D.eqs _ _ hk.1.1 hk.1.2]
      exact fin
    · cases e
  | In =>
    simp only [cmpOp] at e
    split at e
    · rename_i kvs hkv
      split at e
      · rename_i hk
        cases e
        exact dct_in hu hP hw I sr rx ry ra rb hkv hk q
      · cases e
    split at e
    · rename_i t ht
      cases e
      exact dks_in hu I sr rx ry ra rb ht q
    obtain ⟨ds, hd, e⟩ := Option.bind_eq_some_iff.mp e
    split at e
    · rename_i hk
      cases e
      unfold inOk at hk
      simp only [Bool.and_eq_true, decide_eq_true_eq] at hk
      obtain ⟨as, r1⟩ := Dp.reads I _ x v (flat_rep sr ra hk.1.1) rx
      have hroom : X.A.units + 1 + min (PyData.depthAll (D.pyL ds)) (flat S a).py.depth < cLine := by
        rw [D.depL, D.dep]; omega
      rw [← pyL_any _ hk.1.1 ds hk.1.2] at fin
      rcases dp_in sr rb hd hk.1.2 with h2 | h2
      · obtain ⟨bs, r2⟩ := Dp.reads I _ y u h2 ry
        exact SeqAt.in_list_reads r2 r1 (D.layL _ hk.1.2) (D.lay _ hk.1.1) hroom fin
      · obtain ⟨bs, r2⟩ := Dp.reads I _ y u h2 ry
        exact SeqAt.in_tuple_reads r2 r1 (D.layL _ hk.1.2) (D.lay _ hk.1.1) hroom fin
    · cases e
  | NotIn =>
    simp only [cmpOp] at e
    split at e
    · rename_i kvs hkv
      split at e
      · rename_i hk
        cases e
        exact dct_notIn hu hP hw I sr rx ry ra rb hkv hk q
      · cases e
    split at e
    · rename_i t ht
      cases e
      exact dks_notIn hu I sr rx ry ra rb ht q
    obtain ⟨ds, hd, e⟩ := Option.bind_eq_some_iff.mp e
    split at e
    · rename_i hk
      cases e
      unfold inOk at hk
      simp only [Bool.and_eq_true, decide_eq_true_eq] at hk
      obtain ⟨as, r1⟩ := Dp.reads I _ x v (flat_rep sr ra hk.1.1) rx
      have hroom : X.A.units + 1 + min (PyData.depthAll (D.pyL ds)) (flat S a).py.depth < cLine := by
        rw [D.depL, D.dep]; omega
      rw [← pyL_any _ hk.1.1 ds hk.1.2] at fin
      rcases dp_in sr rb hd hk.1.2 with h2 | h2
      · obtain ⟨bs, r2⟩ := Dp.reads I _ y u h2 ry
        exact SeqAt.notIn_list_reads r2 r1 (D.layL _ hk.1.2) (D.lay _ hk.1.1) hroom fin
      · obtain ⟨bs, r2⟩ := Dp.reads I _ y u h2 ry
        exact SeqAt.notIn_tuple_reads r2 r1 (D.layL _ hk.1.2) (D.lay _ hk.1.1) hroom fin
    · cases e
  | Is =>
    simp only [cmpOp] at e
    split at e
    · cases e
      cases rb
      exact op_isN pins s σ H _ _ v u Q I rx ry ⟨rfl, by rw [isNone_rep ra]; exact q⟩
    · rename_i y'
      obtain ⟨z, hz, rfl⟩ := Option.map_eq_some_iff.mp e
      cases rb
      cases ra <;> simp only [isBl] at hz <;> first | (cases hz; done) | skip
      cases hz
      exact op_is_bl' pins s σ H _ _ v u Q I rx ry ⟨_, _, rfl, rfl, q⟩
    · cases e
  | IsNot =>
    simp only [cmpOp] at e
    split at e
    · cases e
      cases rb
      exact op_notN pins s σ H _ _ v u Q I rx ry ⟨rfl, by rw [isNone_rep ra]; exact q⟩
    · rename_i y'
      obtain ⟨z, hz, rfl⟩ := Option.map_eq_some_iff.mp e
      cases rb
      cases ra <;> simp only [isBl] at hz <;> first | (cases hz; done) | skip
      cases hz
      exact op_isnot_bl' pins s σ H _ _ v u Q I rx ry ⟨_, _, rfl, rfl, q⟩
    · cases e
  | Lt =>
    obtain ⟨i, j, rfl, rfl, h⟩ := int_cmp (op := .Lt) (by simpa only [cmpOp] using e)
    cases ra; cases rb
    simp only [cmpInt, Option.some.injEq] at h
    subst h
    exact op_lt pins s σ H _ _ v u Q I rx ry ⟨i, j, rfl, rfl, q⟩
  | LtE =>
    obtain ⟨i, j, rfl, rfl, h⟩ := int_cmp (op := .LtE) (by simpa only [cmpOp] using e)
    cases ra; cases rb
    simp only [cmpInt, Option.some.injEq] at h
    subst h
    exact op_le pins s σ H _ _ v u Q I rx ry ⟨i, j, rfl, rfl, q⟩
  | Gt =>
    obtain ⟨i, j, rfl, rfl, h⟩ := int_cmp (op := .Gt) (by simpa only [cmpOp] using e)
    cases ra; cases rb
    simp only [cmpInt, Option.some.injEq] at h
    subst h
    exact op_gt pins s σ H _ _ v u Q I rx ry ⟨i, j, rfl, rfl, q⟩
  | GtE =>
    obtain ⟨i, j, rfl, rfl, h⟩ := int_cmp (op := .GtE) (by simpa only [cmpOp] using e)
    cases ra; cases rb
    simp only [cmpInt, Option.some.injEq] at h
    subst h
    exact op_ge pins s σ H _ _ v u Q I rx ry ⟨i, j, rfl, rfl, q⟩

/-! ### isinstance -/
def Ty.nm : Ty → String
  | .int => "int"
  | .bool => "bool"
  | .str => "str"
  | .tuple => "tuple"
  | .list => "list"
theorem ty_rep {S : Store} (s : SRel K fa A H S) {v : V} {d : D} (r : Rep K fa A H v d) {b : Bool} {t : Ty} (e : isi S d t = some b) : ∃ n : String, TyX K H v (.type n) ∧ kitB n t.nm = some b := by
  unfold isi at e
  cases d with
  | loc n =>
    simp only [flat] at e
    split at e
    all_goals rename_i hd
    all_goals (split at hd <;> first | (cases hd; done) | skip)
    all_goals try (cases e; done)
    rename_i ds hn
    cases hd
    obtain ⟨a, xs, rfl, h, rr⟩ := listOf_rep s r (by simp only [listOf, hn]; rfl)
    cases e
    refine ⟨"list", .base (.lst h), ?_⟩
    cases t <;> decide +kernel
  | non =>
    cases r
    simp only [flat, Option.some.injEq] at e
    subst e
    refine ⟨"NoneType", .base .non, ?_⟩
    cases t <;> decide +kernel
  | bl x =>
    cases r
    simp only [flat, Option.some.injEq] at e
    subst e
    refine ⟨"bool", .base (.bl x), ?_⟩
    cases t <;> decide +kernel
  | int i =>
    cases r
    simp only [flat, Option.some.injEq] at e
    subst e
    refine ⟨"int", .base (.int i), ?_⟩
    cases t <;> decide +kernel
  | str x =>
    cases r
    simp only [flat, Option.some.injEq] at e
    subst e
    refine ⟨"str", .base (.str x), ?_⟩
    cases t <;> decide +kernel
  | tup ds =>
    simp only [flat, Option.some.injEq] at e
    subst e
    cases r with
    | tup h _ _ _ =>
      refine ⟨"tuple", .base (.tup h), ?_⟩
      cases t <;> decide +kernel
    | ktup k _ =>
      obtain ⟨o, its, n, h1, h2, _⟩ := k
      refine ⟨"tuple", .kTuple h1 h2, ?_⟩
      cases t <;> decide +kernel
  | lst ds =>
    simp only [flat, Option.some.injEq] at e
    subst e
    cases r with
    | lst h _ _ _ =>
      refine ⟨"list", .base (.lst h), ?_⟩
      cases t <;> decide +kernel
  | fn f => simp only [flat] at e; cases e
  | scr f => simp only [flat] at e; cases e

/-! ### items, slices -/
theorem atD_V {xs : List V} {ds : List D} (r : RepL K fa A H xs ds) {i : Int} {d : D} (e : atD ds i = some d) : ∃ v, atI xs i = some v ∧ Rep K fa A H v d := by
  unfold atD at e
  obtain ⟨j, h1, h2⟩ := Option.bind_eq_some_iff.mp e
  obtain ⟨v, h3, h4⟩ := r.get h2
  refine ⟨v, ?_, h4⟩
  unfold atI
  have hj : ixN xs.length i = some j := by
    rw [r.length]; exact h1
  rw [hj, Option.bind_some]
  exact h3
def rIdx (K : PySem.W.Frag) (fa : Fa) : R2 := fun x y H Q => ∃ A S a b d, SRel K fa A H S ∧ Rep K fa A H x a ∧ Rep K fa A H y b ∧ idxOp S a b = some d ∧ Ans K fa A H S d Q
theorem sub_tail {prog : Program} {w : World} {A : Around} {E : Value → Shared → Prop} {s : Shared} {value slice : Expr} {o i : Value} {T id : String} {Q : Value → Shared → Prop} (hl : typeLookup (.type T) "__getitem__" = pure (some (.builtin id)))
    (hs : subscripted slice false o i = operate [o, i] (getItem o i)) (hT : s.TypeIs o T) (h : wpAny (model prog w) A (getItem o i) Q E s) : wpAny (model prog w) A (PyProof.Rows.subscriptTail value slice o i) Q E s := by
  unfold PyProof.Rows.subscriptTail
  refine wpAny_bind ?_
  rw [getitemInPython_of_ne hT.not_modules]
  refine wpAny_bind (wpAny_specialOf hT hl ?_)
  have fin : wpAny (model prog w) A (subscripted slice false o i) (fun r s₃ => wpAny (model prog w) A (letTemporaryGo value o r >>= fun _ => pure r) Q E s₃) E s := by
    rw [hs]
    exact wpAny_operating (wpAny_mono h (fun r s₃ h₃ => wpAny_bind (wpAny_letTemporaryGo (wpAny_pure h₃))) fun _ _ x => x)
  first
    | exact wpAny_pure (wpAny_bind fin)
    | exact wpAny_bind fin
theorem ix_all (hu : X.A.units + 200 < cLine) (hP : fa.P = X.prog) (hw : fa.w = X.w) : IxR X (rIdx X.K fa) := by
  intro value slice pins s σ H x y v u Q I rx ry h hs
  revert hs
  obtain ⟨A, S, a, b, d, sr, ra, rb, e, q⟩ := h
  unfold idxOp at e
  split at e
  · rename_i k
    obtain ⟨ds, hd, e⟩ := Option.bind_eq_some_iff.mp e
    obtain ⟨l, xs, rfl, hl, rl⟩ := seqOf_rep sr ra hd
    cases rb
    obtain ⟨w, hw, rw'⟩ := atD_V rl e
    rcases hl with hl | hl
    · exact ix_list (value := value) (slice := slice) pins s σ H _ _ v u Q I rx ry ⟨l, xs, k, w, rfl, rfl, hl, hw, q.here sr rw'⟩
    · exact ix_tup (value := value) (slice := slice) pins s σ H _ _ v u Q I rx ry ⟨l, xs, k, w, rfl, rfl, hl, hw, q.here sr rw'⟩
  · rename_i ks
    intro hs
    obtain ⟨kvs, hd, e⟩ := Option.bind_eq_some_iff.mp e
    split at e
    · rename_i hk
      obtain ⟨t, wp⟩ := dct_get hu hP hw I sr rx ry ra rb hd hk e (Q := Q) fun w rw => q.here sr rw
      exact sub_tail PySem.F.slot_dict_getitem.lookup hs t wp
    · cases e
  · rename_i z
    intro hs
    obtain ⟨kvs, hd, e⟩ := Option.bind_eq_some_iff.mp e
    obtain ⟨t, wp⟩ := dks_get hu I sr rx ry ra rb hd e (Q := Q) fun w rw => q.here sr rw
    exact sub_tail PySem.F.slot_dict_getitem.lookup hs t wp
  · cases e
theorem slIx_eq (n d : Nat) (o : Option Int) : slIx n d o = HT.sIx n d o := by cases o <;> rfl
theorem cut_rep {xs : List V} {ds : List D} (r : RepL K fa A H xs ds) (lo hi : Option Int) : RepL K fa A H (cutV xs lo hi) (cutD ds lo hi) := by
  unfold cutV cutD
  rw [slIx_eq, slIx_eq, r.length]
  exact (r.drop _).take _
def rSli (K : PySem.W.Frag) (fa : Fa) : V → Option Int → Option Int → Hp → VK → Prop := fun x lo hi H Q => ∃ A S a d, SRel K fa A H S ∧ Rep K fa A H x a ∧ slOp S a lo hi = some d ∧ Ans K fa A H S d Q
theorem sl_all : SlR X (rSli X.K fa) := by
  intro pins s σ H x v vl vu lo hi sl Q I rx hs pl pu h
  obtain ⟨A, S, a, d, sr, ra, e, q⟩ := h
  unfold slOp at e
  split at e
  · rename_i ds
    cases e
    obtain ⟨l, xs, rfl, hl, rl⟩ := tup_sq ra
    refine sl_tupA pins s σ H _ v vl vu lo hi sl Q I rx hs pl pu ⟨l, xs, rfl, hl, fun hw => ?_, fun _ p hp => q.tup sr (cut_rep rl lo hi) hp⟩
    refine q.here sr ?_
    have : cutD ds lo hi = ds := by
      unfold cutD
      rw [slIx_eq, slIx_eq, ← rl.length, hw.1, hw.2, rl.length]
      simp
    rw [this]
    exact ra
  · split at e
    · rename_i z hz
      cases e
      cases ra
      exact sl_str pins s σ H _ v vl vu lo hi sl Q I rx hs pl pu ⟨z, rfl, by rw [← line_eq]; exact hz, q.here sr (.str _)⟩
    · cases e
  · obtain ⟨ds, hd, rfl⟩ := Option.map_eq_some_iff.mp e
    obtain ⟨l, xs, rfl, hl, rl⟩ := listOf_rep sr ra hd
    exact sl_list pins s σ H _ v vl vu lo hi sl Q I rx hs pl pu ⟨l, xs, rfl, SqL.of hl, fun p hp => q.lst sr (cut_rep rl lo hi) hp⟩

/-! ### calls of built-ins -/
def rCB (K : PySem.W.Frag) (fa : Fa) (f : Bf) : List V → Hp → VK → Prop := fun xs H Q => ∃ A S ds d, SRel K fa A H S ∧ RepL K fa A H xs ds ∧ callB f S ds = some d ∧ Ans K fa A H S d Q
theorem repL1 {xs : List V} {d : D} (r : RepL K fa A H xs [d]) : ∃ v, xs = [v] ∧ Rep K fa A H v d := by
  cases r with
  | cons r t => cases t; exact ⟨_, rfl, r⟩
theorem repL2 {xs : List V} {d d2 : D} (r : RepL K fa A H xs [d, d2]) : ∃ v v2, xs = [v, v2] ∧ Rep K fa A H v d ∧ Rep K fa A H v2 d2 := by
  cases r with
  | cons r t => cases t with
    | cons r2 t => cases t; exact ⟨_, _, rfl, r, r2⟩
theorem allInt_rep : ∀ {ds : List D} {is : List Int} {xs : List V}, RepL K fa A H xs ds → allInt ds = some is → xs = is.map V.int
  | [], is, xs, r, e => by cases r; simp only [allInt] at e; cases e; rfl
  | d :: ds, is, xs, r, e => by
    cases d <;> simp only [allInt] at e <;> first | (cases e; done) | skip
    obtain ⟨js, h, rfl⟩ := Option.map_eq_some_iff.mp e
    cases r with
    | cons r t =>
      cases r
      rw [allInt_rep t h]
      rfl
theorem allBl_rep : ∀ {ds : List D} {bs : List Bool} {xs : List V}, RepL K fa A H xs ds → allBl ds = some bs → xs = bs.map V.bl
  | [], _, _, r, e => by cases e; cases r; rfl
  | .bl b :: ds, bs, xs, r, e => by
    simp only [allBl] at e
    obtain ⟨bs', h, rfl⟩ := Option.map_eq_some_iff.mp e
    cases r with
    | cons r t =>
      cases r
      rw [allBl_rep t h]
      rfl
  | .non :: _, _, _, _, e => by simp only [allBl] at e; cases e
  | .int _ :: _, _, _, _, e => by simp only [allBl] at e; cases e
  | .str _ :: _, _, _, _, e => by simp only [allBl] at e; cases e
  | .tup _ :: _, _, _, _, e => by simp only [allBl] at e; cases e
  | .lst _ :: _, _, _, _, e => by simp only [allBl] at e; cases e
  | .loc _ :: _, _, _, _, e => by simp only [allBl] at e; cases e
  | .fn _ :: _, _, _, _, e => by simp only [allBl] at e; cases e
  | .scr _ :: _, _, _, _, e => by simp only [allBl] at e; cases e
def Bf.val : Bf → Value
  | .len => .builtin "len"
  | .abs => .builtin "abs"
  | .int => .type "int"
  | .list => .type "list"
  | .tuple => .type "tuple"
  | .all => .builtin "all"
  | .sum => .builtin "sum"
  | .min => .builtin "min"
  | .max => .builtin "max"
  | .sorted => .builtin "sorted"
  | .str => .type "str"
open PyProof.Rows in
theorem sum_tup {prog : Program} {w : World} {A : Around} {E : Value → Shared → Prop} {s : Shared} {l : Addr} {its : List Value} {ns : List Int} {Q : Value → Shared → Prop} (hh : A.handled = none) (hl : s.heap.IsTuple l its.toArray) (hi : IntsAre its ns)
    (h : ∀ h' tk t', (∀ b o, s.heap.get? b = some o → h'.get? b = some o) → Q (.int ns.sum t') { s with heap := h', toks := tk }) : wpAny (model prog w) A (call (.builtin "sum") [.ref l]) Q E s := by
  obtain ⟨xs, e⟩ := hi.allInts.items
  have hn : numsOf (intItems xs).toList = ns := by rw [← e]; exact hi.numsOf
  rw [nums_intItems] at hn
  rw [e] at hl
  refine PySem.W.ktm_sumG hh hl fun h' tk t' hk => ?_
  have := h h' tk t' hk
  rw [preSum_eq, List.take_of_length_le (by simp), hn]; exact this
/-- what a value of a list stands for -/
def StandsFor (K : PySem.W.Frag) (fa : Fa) (A : Pl) (H : Hp) (u : Value) (d : D) : Prop := ∃ v, RelV v u ∧ Rep K fa A H v d
theorem each_of : ∀ {ds : List D} {xs : List V} {us : List Value}, RepL K fa A H xs ds → Vals xs us → PySem.W.EachIs (StandsFor K fa A H) us ds
  | [], _, _, r, t => by cases r; cases t; exact .nil
  | d :: ds, _, _, r, t => by
    cases r with
    | cons r1 r2 => cases t with
      | cons t1 t2 => exact .cons ⟨_, t1, r1⟩ (each_of r2 t2)
theorem of_each : ∀ {ds : List D} {us : List Value}, PySem.W.EachIs (StandsFor K fa A H) us ds → ∃ xs, RepL K fa A H xs ds ∧ Vals xs us
  | [], _, e => by cases e; exact ⟨[], .nil, .nil⟩
  | d :: ds, _, e => by
    cases e with
    | cons e1 e2 =>
      obtain ⟨v, h1, h2⟩ := e1
      obtain ⟨xs, h3, h4⟩ := of_each e2
      exact ⟨v :: xs, .cons h2 h3, .cons h1 h4⟩
theorem each_reads {pins : List (Addr × Obj)} {σ : L2.St} {s : Shared} (I : L2.Inv X pins σ H s) : ∀ {ds : List D} {us : List Value}, D.okL ds = true → PySem.W.EachIs (StandsFor X.K fa A H) us ds → PySem.W.EachIs (fun u d => ∃ as, Reads s.heap u (D.py d) as) us ds
  | [], _, _, e => by cases e; exact .nil
  | d :: ds, _, q, e => by
    simp only [D.okL, Bool.and_eq_true] at q
    cases e with
    | cons e1 e2 =>
      obtain ⟨v, h1, h2⟩ := e1
      exact .cons (Dp.reads I _ v _ (Rep.dp d v q.1 h2) h1) (each_reads I q.2 e2)
theorem sortOk_of {ds : List D} (h : sortOk ds = true) : D.okL ds = true ∧ PySem.W.AllAlike (ds.map D.py) ∧ PySem.W.Sortable (ds.map D.py) ∧ ds.length ≤ lineN ∧ ∀ d ∈ ds, d.depth ≤ 90 := by
  unfold sortOk at h
  rw [Bool.and_eq_true, decide_eq_true_eq, List.all_eq_true] at h
  obtain ⟨h1, h2⟩ := h
  have key : ∀ d ∈ ds, (∃ x r, d = .tup (x :: r)) ∧ d.ok = true ∧ d.depth ≤ 90 ∧ ∀ e ∈ ds, PySem.W.alike d.py e.py = true := fun d hd => by
    have := h1 d hd
    split at this
    · simp only [Bool.and_eq_true, decide_eq_true_eq, List.all_eq_true] at this
      exact ⟨⟨_, _, rfl⟩, this.1, this.2.1, this.2.2⟩
    · cases this
  refine ⟨?_, ?_, .inl ?_, h2, fun d hd => (key d hd).2.2.1⟩
  · clear h1 h2
    induction ds with
    | nil => simp only [D.okL]
    | cons d ds ih =>
      simp only [D.okL, (key d (by simp)).2.1, Bool.true_and]
      exact ih fun e he => ⟨(key e (by simp [he])).1, (key e (by simp [he])).2.1, (key e (by simp [he])).2.2.1, fun f hf => (key e (by simp [he])).2.2.2 f (by simp [hf])⟩
  · intro d hd e he
    obtain ⟨d', hd', rfl⟩ := List.mem_map.mp hd
    obtain ⟨e', he', rfl⟩ := List.mem_map.mp he
    exact (key d' hd').2.2.2 e' he'
  · intro d hd
    obtain ⟨d', hd', rfl⟩ := List.mem_map.mp hd
    obtain ⟨⟨x, r, rfl⟩, _⟩ := key d' hd'
    exact ⟨x.py, D.pyL r, by simp only [D.py, D.pyL]⟩
theorem cr_sortedX (hu : X.A.units + 200 < cLine) {pins : List (Addr × Obj)} {s : Shared} {σ : L2.St} {l : Addr} {xs : List V} {ds : List D} {Q : VK} {S : Store} (I : L2.Inv X pins σ H s) (sr : SRel X.K fa A H S) (hl : SqL X.K H l xs) (r : RepL X.K fa A H xs ds) (ok : sortOk ds = true) (q : Ans X.K fa A H S (.lst (sortD ds)) Q) :
    wpAny (model X.prog X.w) X.A (call (.builtin "sorted") [.ref l]) (EP X pins σ Q) X.xe s := by
  obtain ⟨h1, h2, h3, h4, h5⟩ := sortOk_of ok
  obtain ⟨its, rv, pl, hz⟩ := I.list hl
  have e := each_of r rv
  refine PySem.W.sorted_data (R := StandsFor X.K fa A H) (enc := D.py) (bs := ds) pl.isList e (each_reads I h1 e) h2 h3 (by rw [← line_eq]; exact h4) (fun d hd => by rw [D.dep]; have := h5 d hd; omega) fun out hlen he => ?_
  obtain ⟨ys, ry, rvy⟩ := of_each he
  obtain ⟨ep, he'⟩ := PyProof.Rows.sortedAll_at s.heap its out.toArray
  have hn : H (s.heap.objs.size + 1) = none := I.hok.fresh (Nat.le_succ _)
  refine ⟨.ref _, upd H (s.heap.objs.size + 1) (.lst ys), I.laid (t' := s.toks) (fun _ _ => PyProof.Rows.sortedAll_old) (Nat.le_succ _) ⟨?_, out, ep, rvy, he'⟩, rfl, q.lst sr ry hn⟩
  rw [ry.length, List.length_mergeSort, ← line_eq]
  exact h4
theorem RepL.strs : ∀ xs : List Str, RepL K fa A H (xs.map V.str) (xs.map D.str)
  | [] => .nil
  | x :: xs => .cons (.str x) (RepL.strs xs)
theorem allStr_rep : ∀ {ds : List D} {ys : List Str} {xs : List V}, RepL K fa A H xs ds → allStr ds = some ys → xs = ys.map V.str
  | [], _, _, r, e => by cases e; cases r; rfl
  | .str b :: ds, bs, xs, r, e => by
    simp only [allStr] at e
    obtain ⟨bs', h, rfl⟩ := Option.map_eq_some_iff.mp e
    cases r with
    | cons r t =>
      cases r
      rw [allStr_rep t h]
      rfl
  | .non :: _, _, _, _, e => by simp only [allStr] at e; cases e
  | .bl _ :: _, _, _, _, e => by simp only [allStr] at e; cases e
  | .int _ :: _, _, _, _, e => by simp only [allStr] at e; cases e
  | .tup _ :: _, _, _, _, e => by simp only [allStr] at e; cases e
  | .lst _ :: _, _, _, _, e => by simp only [allStr] at e; cases e
  | .loc _ :: _, _, _, _, e => by simp only [allStr] at e; cases e
  | .fn _ :: _, _, _, _, e => by simp only [allStr] at e; cases e
  | .scr _ :: _, _, _, _, e => by simp only [allStr] at e; cases e
theorem call_bf (hc : X.calm = true) (hu : X.A.units + 200 < cLine) (f : Bf) : CallR X f.val (rCB X.K fa f) := by
  intro pins s σ H xs us Q I r h
  obtain ⟨A, S, ds, d, sr, rl, e, q⟩ := h
  unfold callB at e
  split at e
  · split at e
    · rename_i x hz
      cases e
      obtain ⟨v, rfl, rv⟩ := repL1 rl
      cases rv
      exact call_len pins s σ H _ us Q I r ⟨_, _, rfl, ⟨by rw [← line_eq]; exact hz, rfl⟩, q.here sr (.int _)⟩
    · cases e
  · split at e
    · rename_i kvs hkv
      cases e
      obtain ⟨v, rfl, rv⟩ := repL1 rl
      obtain ⟨n, p, f, es, rfl, rfl, hpl, hn, hH, r'⟩ := dks_place sr rv hkv
      rw [Vals.ref1 r]
      refine d_len I hH.rd fun t s' I' => ⟨.int es.length, H, I', ⟨t, rfl⟩, ?_⟩
      rw [Paired.length r']
      exact q.here sr (.int _)
    obtain ⟨es, he, rfl⟩ := Option.map_eq_some_iff.mp e
    obtain ⟨v, rfl, rv⟩ := repL1 rl
    obtain ⟨l, ys, rfl, hl, ry⟩ := seqOf_rep sr rv he
    refine call_len pins s σ H _ us Q I r ⟨_, es.length, rfl, ?_, q.here sr (.int _)⟩
    rcases hl with hl | hl
    · exact .inl ⟨ys, hl, ry.length.symm⟩
    · exact .inr ⟨ys, hl, ry.length.symm⟩
  · cases e
    obtain ⟨v, rfl, rv⟩ := repL1 rl
    cases rv
    exact call_abs pins s σ H _ us Q I r ⟨_, rfl, q.here sr (.int _)⟩
  · cases e
    obtain ⟨v, rfl, rv⟩ := repL1 rl
    cases rv
    exact call_int1 pins s σ H _ us Q I r (.inl ⟨_, rfl, q.here sr (.int _)⟩)
  · cases e
    obtain ⟨v, rfl, rv⟩ := repL1 rl
    cases rv
    exact call_int1 pins s σ H _ us Q I r (.inr ⟨_, rfl, q.here sr (.int _)⟩)
  · split at e
    · rename_i x hz
      obtain ⟨n, hn, rfl⟩ := Option.map_eq_some_iff.mp e
      obtain ⟨v, rfl, rv⟩ := repL1 rl
      cases rv
      exact call_int_str pins s σ H _ us Q I r ⟨x, n, rfl, hn, hz, q.here sr (.int _)⟩
    · cases e
  · cases e
    obtain ⟨v, rfl, rv⟩ := repL1 rl
    cases rv
    exact SkE.call_str_str pins s σ H _ us Q I r ⟨_, rfl, q.here sr (.str _)⟩
  · split at e
    · rename_i i hz
      cases e
      obtain ⟨v, rfl, rv⟩ := repL1 rl
      cases rv
      exact call_str_int pins s σ H _ us Q I r ⟨i, rfl, hz, q.here sr (.str _)⟩
    · cases e
  · obtain ⟨es, he, rfl⟩ := Option.map_eq_some_iff.mp e
    obtain ⟨v, rfl, rv⟩ := repL1 rl
    obtain ⟨l, ys, rfl, hl, ry⟩ := seqOf_rep sr rv he
    exact call_list_of pins s σ H _ us Q I r ⟨l, ys, rfl, hl, fun p hp => q.lst sr ry hp⟩
  · rename_i d0
    obtain ⟨es, he, rfl⟩ := Option.map_eq_some_iff.mp e
    obtain ⟨v, rfl, rv⟩ := repL1 rl
    obtain ⟨l, ys, rfl, hl, ry⟩ := seqOf_rep sr rv he
    rcases hl with hl | hl
    · exact call_tuple_of pins s σ H _ us Q I r ⟨l, ys, rfl, .inl ⟨hl, fun p hp => q.tup sr ry hp⟩⟩
    · refine call_tuple_of pins s σ H _ us Q I r ⟨l, ys, rfl, .inr ⟨hl, ?_⟩⟩
      cases rv with
      | tup h n m r' => cases he; exact q.here sr (.tup h n m r')
      | ktup k r' => cases he; exact q.here sr (.ktup k r')
      | lst h n m r' =>
        obtain ⟨_, t1, t2, _⟩ := I.tuple hl
        obtain ⟨_, l1, l2, _⟩ := I.list (SqL.of h)
        obtain ⟨o, ho, hc1, _⟩ := t2
        obtain ⟨o2, _, ho2, hc2, _⟩ := l2
        rw [ho] at ho2; cases ho2
        rw [hc1] at hc2; exact absurd (Value.type.inj hc2) (by decide)
      | loc m =>
        obtain ⟨l', xs', e1, h, _⟩ := listOf_rep sr (.loc m) (show listOf S (.loc _) = some es from he)
        cases e1
        obtain ⟨_, t1, t2, _⟩ := I.tuple hl
        obtain ⟨_, l1, l2, _⟩ := I.list (SqL.of h)
        obtain ⟨o, ho, hc1, _⟩ := t2
        obtain ⟨o2, _, ho2, hc2, _⟩ := l2
        rw [ho] at ho2; cases ho2
        rw [hc1] at hc2; exact absurd (Value.type.inj hc2) (by decide)
      | fn => cases he
      | scr h n m =>
        obtain ⟨_, t1, t2, _⟩ := I.tuple hl
        obtain ⟨_, l1, l2, _⟩ := I.list (.inl h)
        obtain ⟨o, ho, hc1, _⟩ := t2
        obtain ⟨o2, _, ho2, hc2, _⟩ := l2
        rw [ho] at ho2; cases ho2
        rw [hc1] at hc2; exact absurd (Value.type.inj hc2) (by decide)
      | kscr k =>
        obtain ⟨_, t1, t2, _⟩ := I.tuple hl
        obtain ⟨_, l1, l2, _⟩ := I.list (.inr k)
        obtain ⟨o, ho, hc1, _⟩ := t2
        obtain ⟨o2, _, ho2, hc2, _⟩ := l2
        rw [ho] at ho2; cases ho2
        rw [hc1] at hc2; exact absurd (Value.type.inj hc2) (by decide)
  · obtain ⟨es, he, e⟩ := Option.bind_eq_some_iff.mp e
    obtain ⟨bs, hb, rfl⟩ := Option.map_eq_some_iff.mp e
    obtain ⟨v, rfl, rv⟩ := repL1 rl
    obtain ⟨l, ys, rfl, hl, ry⟩ := listOf_rep sr rv he
    exact cr_all hc pins s σ H _ us Q I r ⟨l, bs, rfl, by rw [← allBl_rep ry hb]; exact SqL.of hl, q.here sr (.bl _)⟩
  · cases e
    obtain ⟨v, v2, rfl, rv, rv2⟩ := repL2 rl
    cases rv; cases rv2
    exact call_min2 hc pins s σ H _ us Q I r ⟨_, _, rfl, q.here sr (.int _)⟩
  · cases e
    obtain ⟨v, v2, rfl, rv, rv2⟩ := repL2 rl
    cases rv; cases rv2
    exact call_max2 hc pins s σ H _ us Q I r ⟨_, _, rfl, q.here sr (.int _)⟩
  · obtain ⟨is, hb, rfl⟩ := Option.map_eq_some_iff.mp e
    obtain ⟨v, rfl, rv⟩ := repL1 rl
    obtain ⟨l, ys, rfl, hl, ry⟩ := tup_sq rv
    obtain ⟨its, rvs, tp, _⟩ := I.tuple hl
    rw [allInt_rep ry hb] at rvs
    rw [Vals.ref1 r]
    exact sum_tup (I.ok.hd hc) tp rvs.ints fun h' tk t' hk => ⟨.int _, H, I.kept hk, ⟨_, rfl⟩, q.here sr (.int _)⟩
  · obtain ⟨es, he, e⟩ := Option.bind_eq_some_iff.mp e
    obtain ⟨is, hb, rfl⟩ := Option.map_eq_some_iff.mp e
    obtain ⟨v, rfl, rv⟩ := repL1 rl
    obtain ⟨l, ys, rfl, hl, ry⟩ := listOf_rep sr rv he
    exact cr_sum hc pins s σ H _ us Q I r ⟨l, is, rfl, by rw [← allInt_rep ry hb]; exact SqL.of hl, q.here sr (.int _)⟩
  · split at e
    · rename_i kvs hkv
      split at e
      · rename_i hz
        cases e
        obtain ⟨v, rfl, rv⟩ := repL1 rl
        obtain ⟨n, p, f, es, rfl, rfl, hpl, hn, hH, r'⟩ := dks_place sr rv hkv
        refine call_sortedD hc pins s σ H _ us Q I r ⟨p, es, kvs.map (·.1), rfl, hH.rd, dks_keys r', by rw [List.length_map]; exact hz, fun ys p' hp hs hn' => ?_⟩
        rw [sortS_of hp hs]
        exact q.lst sr (RepL.strs _) hn'
      · cases e
    obtain ⟨es, he, e⟩ := Option.bind_eq_some_iff.mp e
    split at e
    · rename_i hok
      cases e
      obtain ⟨v, rfl, rv⟩ := repL1 rl
      obtain ⟨l, ys, rfl, hl, ry⟩ := listOf_rep sr rv he
      rw [Vals.ref1 r]
      exact cr_sortedX hu I sr (SqL.of hl) ry hok q
    · cases e
  · obtain ⟨es, he, e⟩ := Option.bind_eq_some_iff.mp e
    obtain ⟨is, hb, e⟩ := Option.bind_eq_some_iff.mp e
    obtain ⟨m, hm, rfl⟩ := Option.map_eq_some_iff.mp e
    obtain ⟨v, rfl, rv⟩ := repL1 rl
    obtain ⟨l, ys, rfl, hl, ry⟩ := listOf_rep sr rv he
    have hmem : m ∈ is := List.min?_mem hm
    refine cr_min hc pins s σ H _ us Q I r ⟨l, is, rfl, by rw [← allInt_rep ry hb]; exact SqL.of hl, List.length_pos_of_mem hmem, fun m' h1 h2 => ?_⟩
    have e1 : m = m' := Int.le_antisymm ((List.min?_eq_some_iff.mp hm).2 m' h1) (h2 m hmem)
    subst e1
    exact q.here sr (.int _)
  · obtain ⟨es, he, e⟩ := Option.bind_eq_some_iff.mp e
    obtain ⟨is, hb, e⟩ := Option.bind_eq_some_iff.mp e
    obtain ⟨m, hm, rfl⟩ := Option.map_eq_some_iff.mp e
    obtain ⟨v, rfl, rv⟩ := repL1 rl
    obtain ⟨l, ys, rfl, hl, ry⟩ := listOf_rep sr rv he
    have hmem : m ∈ is := List.max?_mem hm
    refine cr_max hc pins s σ H _ us Q I r ⟨l, is, rfl, by rw [← allInt_rep ry hb]; exact SqL.of hl, List.length_pos_of_mem hmem, fun m' h1 h2 => ?_⟩
    have e1 : m = m' := Int.le_antisymm (h2 m hmem) ((List.max?_eq_some_iff.mp hm).2 m' h1)
    subst e1
    exact q.here sr (.int _)
  · cases e
end
end NW
end
section
/- The text is the core syntax; an expression's run is the evaluator's answer. -/
namespace NW
open PySem PySem.Spec L2

/-! ### the text against the core syntax -/
structure Tb where
  fn : Nat → Option FD
  cst : Str → Option D
  /-- the program's classes of exceptions (without __init__), by their names -/
  xc : Nat → Option Str := fun _ => none
  /-- those with an __init__ that keeps its argument: by their names, the fields -/
  xi : Nat → Option (Str × Str) := fun _ => none
/-- slots with their names -/
def nmd (N : List Str) (is : List Nat) : List (Str × Nat) := is.map fun i => (N.getD i "", i)
theorem nmd_snd (N : List Str) (is : List Nat) : (nmd N is).map (·.2) = is := by
  unfold nmd
  rw [List.map_map]
  exact List.map_id is
def okN (x : Str) : Bool := !(x == ("__debug__" : Str)) && (!(x == ("__classdict__" : Str)) && decide (x ≠ ("__name__" : Str)))
def gl (sc : Scope) (x : Str) : Bool := okN x && decide (sc.names.lookup x = some .globalImplicit)
def vis (sc : Scope) (x : Str) : Bool := okN x && (decide (sc.names.lookup x = some .local) || (decide (sc.names.lookup x = some .cell) || decide (sc.names.lookup x = some .free)))
def loc (sc : Scope) (x : Str) : Bool := decide (sc.names.lookup x = some .local) || decide (sc.names.lookup x = some .cell)
/-- no star, no slice, no display of a set -/
def plain : Expr → Bool
  | .Starred .. => false
  | .Slice .. => false
  | .Set .. => false
  | _ => true
def Bf.name : Bf → Str
  | .len => "len"
  | .abs => "abs"
  | .int => "int"
  | .list => "list"
  | .tuple => "tuple"
  | .all => "all"
  | .sum => "sum"
  | .min => "min"
  | .max => "max"
  | .sorted => "sorted"
  | .str => "str"
def bltNames : List Str := ["len", "abs", "int", "list", "tuple", "all", "isinstance", "range", "str", "bool", "sum", "min", "max", "sorted", "enumerate", "zip"]
/-- the keys of a written dict -/
def mKeys : List Str → List (Option Expr) → Bool
  | [], [] => true
  | x :: xs, some (.Constant (.str y) _ _) :: ks => decide (x = y) && mKeys xs ks
  | _, _ => false
def mNames (N : List Str) (ok : Str → Bool) : List Nat → List Expr → Bool
  | [], [] => true
  | i :: is, .Name x _ :: es => decide (N[i]? = some x) && (ok x && mNames N ok is es)
  | _, _ => false
def mTg (N : List Str) (ok : Str → Bool) : Tg → Expr → Bool
  | .name i, .Name x _ => decide (N[i]? = some x) && ok x
  | .tup is, .Tuple es _ _ => mNames N ok is es
  | _, _ => false
/-- pairs that are made are taken apart -/
def itTg : It → Expr → Bool
  | .enum _, .Tuple _ _ _ => true
  | .zip _ _, .Tuple _ _ _ => true
  | .enum _, _ => false
  | .zip _ _, _ => false
  | _, _ => true
/-- what a method is asked of: nothing that CPython folds -/
def baseOk : Expr → Bool
  | .Name _ _ => true
  | .Subscript _ _ _ => true
  | .Constant (.str _) _ _ => true
  | _ => false
theorem baseOk_ok {p : Expr} {at_ : Str} {env : PySem.Env} {m : Sem Value} (h : baseOk p = true) : attributeBase p at_ env m = m := by
  unfold baseOk at h
  split at h <;> first | rfl | (cases h; done)
mutual
def mE (T : Tb) (N : List Str) : E → Scope → Expr → Bool
  | .var i, sc, .Name x _ => decide (N[i]? = some x) && vis sc x
  | .non, _, .Constant .none _ _ => true
  | .bl b, _, .Constant (.bool c) _ _ => decide (b = c)
  | .int i, _, .Constant (.int j) _ _ => decide (i = j)
  | .str x, _, .Constant (.str y) _ _ => decide (x = y)
  | .cst x d, sc, .Name y _ => decide (x = y) && (gl sc y && (match T.cst x with
    | some d' => D.same d d'
    | none => false))
  | .bin op a b, sc, .BinOp p o q _ => decide (op = o) && (mE T N a sc p && mE T N b sc q)
  | .neg a, sc, .UnaryOp .USub p _ => mE T N a sc p
  | .cmp op a b, sc, .Compare p [o] [q] _ => decide (op = o) && (plain q && (mE T N a sc p && mE T N b sc q))
  | .chn op op' a b c, sc, .Compare p [o, o'] [q, r] _ => decide (op = o) && (decide (op' = o') && (plain r && (mE T N a sc p && (mE T N b sc q && mE T N c sc r))))
  | .and es, sc, .BoolOp .And qs _ => mEs T N es sc qs
  | .or es, sc, .BoolOp .Or qs _ => mEs T N es sc qs
  | .not a, sc, .UnaryOp .Not p _ => mE T N a sc p
  | .ite c a b, sc, .IfExp r p q _ => mE T N c sc r && (mE T N a sc p && mE T N b sc q)
  | .tup es, sc, .Tuple qs _ _ => mEs T N es sc qs
  | .lst es, sc, .List qs _ => mEs T N es sc qs
  | .nlst es, sc, .List qs _ => mEs T N es sc qs
  | .idx a i, sc, .Subscript p q _ => plain q && (mE T N a sc p && mE T N i sc q)
  | .sl a lo hi, sc, .Subscript p (.Slice l h none _) _ => mE T N a sc p && (mO T N lo sc l && mO T N hi sc h)
  | .call f es, sc, .Call (.Name x _) qs [] _ => gl sc x && ((match T.fn f with
    | some fd => decide (fd.name = x)
    | none => false) && mEs T N es sc qs)
  | .cb f es, sc, .Call (.Name x _) qs [] _ => gl sc x && (decide (f.name = x) && (!qs.isEmpty && mEs T N es sc qs))
  | .isi a t, sc, .Call (.Name x _) [p, .Name y _] [] _ => gl sc x && (gl sc y && (decide (x = ("isinstance" : Str)) && (decide (y = Str.ofString t.nm) && (plain p && mE T N a sc p))))
  | .comp elt own tg it c, sc, .ListComp q [⟨t, i, ifs, 0⟩] scope _ => blkC N sc scope (nmd N own) && (itTg it t && mTg N (loc scope) tg t && (mI T N it sc i && (plain i && (mC T N c (relS scope sc) ifs && mE T N elt (relS scope sc) q))))
  | .dnew, _, .Dict [] [] _ => true
  | .fnv f, sc, .Name x _ => gl sc x && (match T.fn f with
    | some fd => decide (fd.name = x)
    | none => false)
  | .lcall i es, sc, .Call (.Name x _) qs [] _ => decide (N[i]? = some x) && (vis sc x && mEs T N es sc qs)
  | .pick ks es k, sc, .Subscript (.Dict keys vals _) q _ => plain q && (mKeys ks keys && (decide (keys.length = vals.length ∧ 1 ≤ keys.length ∧ keys.length ≤ 15) && (mEs T N es sc vals && mE T N k sc q)))
  | .dnewS, _, .Dict [] [] _ => true
  | .split a b, sc, .Call (.Attribute p at_ ap) [q] [] cp => decide (at_ = ("split" : Str)) && (ap.endLine == cp.line && (baseOk p && (plain q && (mE T N a sc p && mE T N b sc q))))
  | .join a b, sc, .Call (.Attribute p at_ ap) [q] [] cp => decide (at_ = ("join" : Str)) && (ap.endLine == cp.line && (baseOk p && (plain q && (mE T N a sc p && mE T N b sc q))))
  | _, _, _ => false
def mEs (T : Tb) (N : List Str) : Es → Scope → List Expr → Bool
  | .nil, _, [] => true
  | .cons e es, sc, p :: ps => plain p && (mE T N e sc p && mEs T N es sc ps)
  | _, _, _ => false
def mO (T : Tb) (N : List Str) : Oe → Scope → Option Expr → Bool
  | .none, _, none => true
  | .some e, sc, some p => mE T N e sc p
  | _, _, _ => false
def mC (T : Tb) (N : List Str) : Oe → Scope → List Expr → Bool
  | .none, _, [] => true
  | .some e, sc, [p] => mE T N e sc p
  | _, _, _ => false
def mI (T : Tb) (N : List Str) : It → Scope → Expr → Bool
  | .e a, sc, p => mE T N a sc p
  | .rng a, sc, .Call (.Name x _) [p] [] _ => gl sc x && (decide (x = ("range" : Str)) && (plain p && mE T N a sc p))
  | .rng2 a b, sc, .Call (.Name x _) [p, q] [] _ => gl sc x && (decide (x = ("range" : Str)) && (plain p && (plain q && (mE T N a sc p && mE T N b sc q))))
  | .enum a, sc, .Call (.Name x _) [p] [] _ => gl sc x && (decide (x = ("enumerate" : Str)) && (plain p && mE T N a sc p))
  | .zip a b, sc, .Call (.Name x _) [p, q] [] _ => gl sc x && (decide (x = ("zip" : Str)) && (plain p && (plain q && (mE T N a sc p && mE T N b sc q))))
  | _, _, _ => false
end

mutual
theorem D.same_eq : ∀ a b : D, D.same a b = true → a = b
  | .non, b, h => by cases b <;> simp only [D.same] at h <;> first | rfl | cases h
  | .bl _, b, h => by cases b <;> simp only [D.same] at h <;> first | (cases h; done) | rw [eq_of_beq h]
  | .int _, b, h => by cases b <;> simp only [D.same] at h <;> first | (cases h; done) | rw [eq_of_beq h]
  | .str _, b, h => by cases b <;> simp only [D.same] at h <;> first | (cases h; done) | rw [eq_of_beq h]
  | .loc _, b, h => by cases b <;> simp only [D.same] at h <;> first | (cases h; done) | rw [eq_of_beq h]
  | .fn _, b, h => by cases b <;> simp only [D.same] at h <;> first | (cases h; done) | rw [eq_of_beq h]
  | .scr _, b, h => by cases b <;> simp only [D.same] at h <;> first | (cases h; done) | rw [eq_of_beq h]
  | .tup xs, b, h => by cases b <;> simp only [D.same] at h <;> first | (cases h; done) | rw [D.sameL_eq xs _ h]
  | .lst xs, b, h => by cases b <;> simp only [D.same] at h <;> first | (cases h; done) | rw [D.sameL_eq xs _ h]
theorem D.sameL_eq : ∀ xs ys : List D, D.sameL xs ys = true → xs = ys
  | [], [], _ => rfl
  | [], _ :: _, h => by simp only [D.sameL] at h; cases h
  | _ :: _, [], h => by simp only [D.sameL] at h; cases h
  | x :: xs, y :: ys, h => by
    simp only [D.sameL, Bool.and_eq_true] at h
    rw [D.same_eq x y h.1, D.sameL_eq xs ys h.2]
end
mutual
theorem D.same_refl : ∀ a : D, D.same a a = true
  | .non => by simp only [D.same]
  | .bl _ => by simp only [D.same, beq_self_eq_true]
  | .int _ => by simp only [D.same, beq_self_eq_true]
  | .str _ => by simp only [D.same, beq_self_eq_true]
  | .loc _ => by simp only [D.same, beq_self_eq_true]
  | .fn _ => by simp only [D.same, beq_self_eq_true]
  | .scr _ => by simp only [D.same, beq_self_eq_true]
  | .tup xs => by simp only [D.same]; exact D.sameL_refl xs
  | .lst xs => by simp only [D.same]; exact D.sameL_refl xs
theorem D.sameL_refl : ∀ xs : List D, D.sameL xs xs = true
  | [] => by simp only [D.sameL]
  | x :: xs => by simp only [D.sameL, D.same_refl x, D.sameL_refl xs, Bool.and_self]
end

/-! ### what is wanted of an answer -/
section
variable {K : PySem.W.Frag} {fa : Fa} {ca : Nat → Addr} {A A1 A2 A' : Pl} {H H1 H2 H' : Hp} {σ : L2.St} {G : Env}
abbrev W0 : WX := fun _ _ _ _ => False
def tevG {α β : Type} (K : PySem.W.Frag) (fa : Fa) (ca : Nat → Addr) (rep : Pl → Hp → β → α → Prop) (m : Env → Store → R α) (W : WX) (σ : L2.St) (H : Hp) (Q : β → Hp → Prop) : Prop :=
  ∃ A G S, GRel K fa A H σ G ∧ SRel K fa A H S ∧ RPost K fa ca rep (m G S) A H Q (fun c d H' => W c d σ H')
theorem tevG.mono {α β : Type} {rep : Pl → Hp → β → α → Prop} {m : Env → Store → R α} {W : WX} {Q Q' : β → Hp → Prop} (h : tevG K fa ca rep m W σ H Q) (i : ∀ v H1, Q v H1 → Q' v H1) : tevG K fa ca rep m W σ H Q' := by
  obtain ⟨A, G, S, g, s, p⟩ := h
  refine ⟨A, G, S, g, s, ?_⟩
  cases hm : m G S with
  | ok a S1 => rw [hm] at p; exact fun v H' A' e s r => i _ _ (p v H' A' e s r)
  | exc x S1 => rw [hm] at p; exact p
  | bad => rw [hm] at p; exact p
/-- a part first -/
theorem sub {α β γ δ : Type} {rep1 : Pl → Hp → β → α → Prop} {rep2 : Pl → Hp → δ → γ → Prop} {m1 : Env → Store → R α} {f : α → Store → R γ} {W : WX} {Q : δ → Hp → Prop} {S : Store}
    (g : GRel K fa A H σ G) (s : SRel K fa A H S) (p : RPost K fa ca rep2 ((m1 G S).bind f) A H Q (fun c d H' => W c d σ H')) :
    tevG K fa ca rep1 m1 W σ H (fun v H1 => ∃ A1 a S1, Ext A H A1 H1 ∧ SRel K fa A1 H1 S1 ∧ rep1 A1 H1 v a ∧ RPost K fa ca rep2 (f a S1) A1 H1 Q (fun c d H' => W c d σ H')) :=
  ⟨A, G, S, g, s, RPost.bind p⟩
abbrev tev (K : PySem.W.Frag) (fa : Fa) (ca : Nat → Addr) (m : ME) (W : WX) : TE := tevG K fa ca (Rep K fa) m W
def R.toB (r : R D) : R Bool := r.bind fun d S => match d with
  | .bl b => .ok b S
  | _ => .bad
theorem tst_eq (r : R D) (f : Bool → Store → R D) : tst r f = (R.toB r).bind f := by
  cases r with
  | ok d S => cases d <;> rfl
  | exc x S => rfl
  | bad => rfl
abbrev RepB : Pl → Hp → Bool → Bool → Prop := fun _ _ b b' => b = b'
abbrev tevT (K : PySem.W.Frag) (fa : Fa) (ca : Nat → Addr) (m : ME) (W : WX) : TT := tevG K fa ca RepB (fun G S => R.toB (m G S)) W
abbrev tevs (K : PySem.W.Frag) (fa : Fa) (ca : Nat → Addr) (m : Env → Store → R (List D)) (W : WX) : TA := tevG K fa ca (RepL K fa) m W
theorem opt_post {α β : Type} {rep : Pl → Hp → β → α → Prop} {o : Option α} {S : Store} {Q : β → Hp → Prop} {W : Value → Option Addr → Hp → Prop} (h : RPost K fa ca rep (R.opt o S) A H Q W) : ∃ a, o = some a ∧ ∀ v H' A', Ext A H A' H' → SRel K fa A' H' S → rep A' H' v a → Q v H' := by
  cases o with
  | none => exact h.elim
  | some a => exact ⟨a, rfl, h⟩
theorem ans_of {d : D} {S : Store} {Q : VK} (h : ∀ v H' A', Ext A H A' H' → SRel K fa A' H' S → Rep K fa A' H' v d → Q v H') : Ans K fa A H S d Q := fun v H' e s r => h v H' A e s r
end

theorem PE_of {X : Cx} {e : Expr} {t t' : TE} (h : PE X e t) (i : ∀ σ H Q, t' σ H Q → t σ H Q) : PE X e t' := ⟨fun pins s σ H Q I q => h.run pins s σ H Q I (i σ H Q q)⟩
theorem PT_of {X : Cx} {e : Expr} {t t' : TT} (h : PT X e t) (i : ∀ σ H Q, t' σ H Q → t σ H Q) : PT X e t' := ⟨fun pins s σ H Q I q => h.run pins s σ H Q I (i σ H Q q)⟩
theorem PA_of {X : Cx} {e : List Expr} {t t' : TA} (h : PA X e t) (i : ∀ σ H Q, t' σ H Q → t σ H Q) : PA X e t' := ⟨fun pos pins s σ H Q I q => h.run pos pins s σ H Q I (i σ H Q q)⟩
theorem PI_of {X : Cx} {tg e : Expr} {t t' : TI} (h : PI X tg e t) (i : ∀ σ H Q, t' σ H Q → t σ H Q) : PI X tg e t' := ⟨fun pins s σ H Q I q => h.run pins s σ H Q I (i σ H Q q)⟩
theorem PO_of {X : Cx} {e : Option Expr} {t t' : TO} (h : PO X e t) (i : ∀ σ H Q, t' σ H Q → t σ H Q) : PO X e t' := ⟨fun pins s σ H Q I q => h.run pins s σ H Q I (i σ H Q q)⟩

def excBases : List Value := [.type "ValueError", .type "Exception", .type "BaseException", .type "object"]
/-! ### the program's top, as far as a call of level k sees it -/
def spF (T : Tb) (K : PySem.W.Frag) (fa : Fa) (ca : Nat → Addr) (k f : Nat) : Sp := fun vs H Q E => (∃ fd, T.fn f = some fd ∧ vs.length = (fd.N.take fd.np).length) ∧
  ∃ A S ds, SRel K fa A H S ∧ RepL K fa A H vs ds ∧ RPost K fa ca (Rep K fa) (callN T.fn k f ds S) A H Q E
/-- the promise of an __init__ that keeps its argument -/
def spI (K : PySem.W.Frag) (C : Addr) (f : Str) : Sp := fun vs H Q _ => ∃ (a : Addr) (v : V), vs = [.ref a, v] ∧ H a = some (exo a C none) ∧ ∀ dx, H dx = none → dx ≠ a → Q .non (upd (upd H dx (exd dx [(f, v)])) a (exo a C (some dx)))
/-- a class with such an __init__ -/
structure XiOk (P : Program) (w : World) (K : PySem.W.Frag) (mg : Str → Option Value) (base : Heap) (C : Addr) (f : Str) : Prop where
  cls : OexC K C
  no : PySem.W.findIn K (.ref C) f = some none
  fld : XfC K C
  fn : ∃ (fI : Addr) (fd : FuncData) (ps : List Str), ps.length = 2 ∧ PySem.W.findIn K (.ref C) "__init__" = some (some (.ref fI)) ∧ PySem.W.typeIn K (.ref fI) = some (.type "function") ∧ Binds K fd ps [] ∧ FnOk P w K mg base (L2.CX P w) 1 fI fd ps (spI K C f)
structure Top (T : Tb) (fa : Fa) (ca : Nat → Addr) (k : Nat) (P : Program) (w : World) (K : PySem.W.Frag) (mg : Str → Option Value) (base : Heap) : Prop where
  fns : ∀ f fd, T.fn f = some fd → (fd.N.take fd.np).length = fd.np ∧ ∃ fdat : FuncData, mg fd.name = some (.ref (fa f)) ∧ PySem.W.keepIn K (.ref (fa f)) = true ∧ Binds K fdat (fd.N.take fd.np) [] ∧
    FnOk P w K mg base (L2.CX P w) (k + 4) (fa f) fdat (fd.N.take fd.np) (spF T K fa ca k f)
  cst : ∀ x d, T.cst x = some d → ∃ v u, mg x = some u ∧ RelV v u ∧ ∀ A H, Rep K fa A H v d
  blt : ∀ x, x ∈ bltNames → mg x = none
  tys : ∀ t : Ty, mg (Str.ofString t.nm) = none
  prog : fa.P = P
  world : fa.w = w
  xcs : ∀ c x, T.xc c = some x → mg x = some (.ref (ca c)) ∧ PySem.W.excIn K (ca c) excBases "ValueError.__new__" = true ∧ PySem.W.keepIn K (.ref (ca c)) = true ∧ PySem.W.subIn K (.ref (ca c)) (.type "BaseException") = some true ∧ PySem.W.typeIn K (.ref (ca c)) = some (.type "type")
  xrg : ∀ c x, T.xc c = some x → fa.x c = true
  xis : ∀ c x f, T.xi c = some (x, f) → mg x = some (.ref (ca c)) ∧ fa.x c = true ∧ XiOk P w K mg base (ca c) f
  fdk : ∀ f, fa.d f = (T.fn f).isSome
  exm : ∀ c c' x', fa.x c = true → (T.xc c' = some x' ∨ ∃ f, T.xi c' = some (x', f)) → PySem.W.exmOne K (.ref (ca c)) (.ref (ca c')) = some (decide (c = c'))
structure Good (T : Tb) (fa : Fa) (ca : Nat → Addr) (k : Nat) (X : Cx) : Prop where
  calm : X.calm = true
  nd : X.N.Nodup
  room : Room (k + 4) X.A
  top : Top T fa ca k X.prog X.w X.K X.mg X.base
theorem Good.blk {T : Tb} {fa : Fa} {ca : Nat → Addr} {k : Nat} {X : Cx} (g : Good T fa ca k X) (s : Shared) (H : Hp) (scope : Scope) (ce : PySem.Env) (fp : List Addr) : Good T fa ca k (X.blk s H scope ce fp) := ⟨g.calm, g.nd, g.room, g.top⟩
theorem takes0 {X : Cx} : Takes X W0 := fun _ _ ⟨_, _, _, _, _, _, _, _, _, _, _, _, _, _, _, _, h⟩ => h.elim
end NW
end
section
/- An expression's run is the evaluator's answer: construct by construct. -/
namespace NW
open PySem PySem.Spec L2
section
variable {T : Tb} {fa : Fa} {ca : Nat → Addr} {k : Nat} {X : Cx} {W : WX} {C : Calls}
/-! ### what the checks say -/
theorem okN_of {x : Str} (h : okN x = true) : (x == ("__debug__" : Str)) = false ∧ (x == ("__classdict__" : Str)) = false ∧ x ≠ ("__name__" : Str) := by
  unfold okN at h
  simp only [Bool.and_eq_true, Bool.not_eq_true', decide_eq_true_eq] at h
  exact h
theorem gl_of {x : Str} (h : gl X.env.scope x = true) : Gl X x ∧ okN x = true := by
  unfold gl at h
  simp only [Bool.and_eq_true, decide_eq_true_eq] at h
  exact ⟨h.2, h.1⟩
theorem vis_of {x : Str} (h : vis X.env.scope x = true) : Vis X.env.scope x ∧ okN x = true := by
  unfold vis at h
  simp only [Bool.and_eq_true, Bool.or_eq_true, decide_eq_true_eq] at h
  exact ⟨h.2, h.1⟩
theorem plain_star {e : Expr} (h : plain e = true) (es : List Expr) (env : PySem.Env) : starEach (e :: es) env = (false, eval e env) :: starEach es env := by
  cases e <;> first | rfl | (simp only [plain] at h; cases h; done)
theorem plain_fold {e : Expr} (h : plain e = true) (env : PySem.Env) (x : Value) : foldedSetIterable e env x = pure x := by
  cases e <;> first | rfl | (simp only [plain] at h; cases h; done)
theorem plain_mark {e : Expr} {op : CmpOp} (h : plain e = true) : behindInMarks op e = false := by
  cases e <;> first | rfl | (simp only [plain] at h; cases h; done)
theorem plain_ix {e : Expr} (h : plain e = true) : PlainIx e := by
  cases e <;> first | (intro _ _; rfl) | (simp only [plain] at h; cases h; done)
theorem mEs_plain {N : List Str} {sc : Scope} : ∀ {es : Es} {ps : List Expr}, mEs T N es sc ps = true → ∀ p ∈ ps, plain p = true
  | .nil, [], _ => fun p hp => by cases hp
  | .cons e es, p :: ps, h => fun q hq => by
    simp only [mEs, Bool.and_eq_true] at h
    rcases List.mem_cons.mp hq with rfl | hq
    · exact h.1
    · exact mEs_plain h.2.2 q hq
  | .nil, _ :: _, h => by simp only [mEs] at h; cases h
  | .cons _ _, [], h => by simp only [mEs] at h; cases h
theorem star_none {env : PySem.Env} {pos : Pos} : ∀ {ps : List Expr}, (∀ p ∈ ps, plain p = true) → (backTo pos (starEach ps env)).any (·.1) = false
  | [], _ => rfl
  | p :: ps, h => by
    rw [plain_star (h p List.mem_cons_self)]
    show (false || (backTo pos (starEach ps env)).any (·.1)) = false
    rw [Bool.false_or]
    exact star_none fun q hq => h q (List.mem_cons_of_mem _ hq)

/-! ### leaves -/
theorem s_val {m : ME} {pe : Expr} (h : PE X pe (tev X.K fa ca m W)) (he : ∀ whole, isTrue pe X.env whole = (do let v ← whole; standAt pe.pos; holding [v] (truthy v))) : PT X pe (tevT X.K fa ca m W) := by
  refine PT_of (pt_val h he) fun σ H Q q => ?_
  obtain ⟨A, G, S, g, s, p⟩ := q
  refine ⟨A, G, S, g, s, ?_⟩
  dsimp only at p
  cases hm : m G S with
  | ok d S1 =>
    rw [hm] at p
    intro v H' A' e s' r
    cases d with
    | bl b => cases r; exact ⟨b, rfl, p b H' A' e s' rfl⟩
    | non => exact p.elim
    | int _ => exact p.elim
    | str _ => exact p.elim
    | tup _ => exact p.elim
    | lst _ => exact p.elim
    | loc _ => exact p.elim
    | fn _ => exact p.elim
    | scr _ => exact p.elim
  | exc x S1 => rw [hm] at p; exact p
  | bad => rw [hm] at p; exact p
theorem s_var {i : Nat} {x : Str} {p : Pos} (hN : X.N[i]? = some x) (hv : vis X.env.scope x = true) : PE X (.Name x p) (tev X.K fa ca (evE C (.var i)) W) := by
  obtain ⟨v1, v2⟩ := vis_of hv
  obtain ⟨n1, n2, n3⟩ := okN_of v2
  refine PE_of (pe_var hN v1 n1 n2) fun σ H Q q => ?_
  obtain ⟨A, G, S, g, s, p⟩ := q
  simp only [evE] at p
  obtain ⟨d, hd, p⟩ := opt_post p
  obtain ⟨o, h1, h2⟩ := Option.bind_eq_some_iff.mp hd
  cases h2
  obtain ⟨v, h3, h4⟩ := g.2 i d h1
  exact ⟨v, h3, p v H A Ext.refl s h4⟩
theorem s_leaf {m : ME} {pe : Expr} {v : V} {d : D} (h : PE X pe (tC v)) (hr : ∀ A H, Rep X.K fa A H v d) (hm : ∀ G S, m G S = .ok d S) : PE X pe (tev X.K fa ca m W) := by
  refine PE_of h fun σ H Q q => ?_
  obtain ⟨A, G, S, g, s, p⟩ := q
  rw [hm] at p
  exact p v H A Ext.refl s (hr A H)

/-! ### operators -/
theorem s_bin {op : Operator} {ma mb : ME} {a b : Expr} {p : Pos} {m : ME} (ha : PE X a (tev X.K fa ca ma W)) (hb : PE X b (tev X.K fa ca mb W))
    (hm : ∀ G S, m G S = (ma G S).bind fun x S1 => (mb G S1).bind fun y S2 => R.opt (binOp op S2 x y) S2) : PE X (.BinOp a op b p) (tev X.K fa ca m W) := by
  refine PE_of (pe_op (op_bin (fa := fa) op) ha hb) fun σ H Q q => ?_
  obtain ⟨A, G, S, g, s, p⟩ := q
  rw [hm] at p
  refine (sub g s p).mono fun x H1 ⟨A1, a, S1, e1, s1, r1, p1⟩ => ?_
  refine (sub (g.mono e1) s1 p1).mono fun y H2 ⟨A2, b, S2, e2, s2, r2, p2⟩ => ?_
  obtain ⟨d, hd, p2⟩ := opt_post p2
  exact ⟨A2, S2, a, b, d, s2, Rep.mono e2 _ _ r1, r2, hd, ans_of p2⟩
theorem s_neg {ma : ME} {a : Expr} {p : Pos} {m : ME} (ha : PE X a (tev X.K fa ca ma W))
    (hm : ∀ G S, m G S = (ma G S).bind fun x S1 => R.opt (negD x) S1) : PE X (.UnaryOp .USub a p) (tev X.K fa ca m W) := by
  refine PE_of (pe_un un_neg ha) fun σ H Q q => ?_
  obtain ⟨A, G, S, g, s, p⟩ := q
  rw [hm] at p
  refine (sub g s p).mono fun x H1 ⟨A1, a, S1, e1, s1, r1, p1⟩ => ?_
  obtain ⟨d, hd, p1⟩ := opt_post p1
  unfold negD at hd
  split at hd
  · cases r1
    cases hd
    exact ⟨_, rfl, p1 _ H1 A1 Ext.refl s1 (.int _)⟩
  · cases hd
theorem room200 {A : Around} {k : Nat} (r : Room k A) : A.units + 200 < cLine := by have := r.un; omega
theorem Good.rm {T : Tb} {fa : Fa} {ca : Nat → Addr} {k : Nat} {X : Cx} (hg : Good T fa ca k X) (j : Nat) (h : j ≤ k + 4) : Room j X.A := hg.room.mono h
theorem cmp_post {op : CmpOp} {x y : V} {a b : D} {A : Pl} {H : Hp} {S : Store} {Q : VK} {Wx : Value → Option Addr → Hp → Prop} (s : SRel X.K fa A H S) (ra : Rep X.K fa A H x a) (rb : Rep X.K fa A H y b)
    (p : RPost X.K fa ca (Rep X.K fa) (R.opt ((cmpOp op S a b).map .bl) S) A H Q Wx) : rCmp X.K fa op x y H Q := by
  obtain ⟨d, hd, p⟩ := opt_post p
  obtain ⟨b', hb, rfl⟩ := Option.map_eq_some_iff.mp hd
  exact ⟨A, S, a, b, b', s, ra, rb, hb, p _ H A Ext.refl s (.bl _)⟩
theorem s_cmp {op : CmpOp} {ma mb : ME} {a b : Expr} {p : Pos} {m : ME} (hg : Good T fa ca k X) (hp : plain b = true) (ha : PE X a (tev X.K fa ca ma W)) (hb : PE X b (tev X.K fa ca mb W))
    (hm : ∀ G S, m G S = (ma G S).bind fun x S1 => (mb G S1).bind fun y S2 => R.opt ((cmpOp op S2 x y).map .bl) S2) : PE X (.Compare a [op] [b] p) (tev X.K fa ca m W) ∧ PT X (.Compare a [op] [b] p) (tevT X.K fa ca m W) := by
  refine ⟨PE_of (pe_cmpR (op_cmp (fa := fa) op (room200 hg.room) hg.top.prog hg.top.world) ha hb (plain_mark hp)) fun σ H Q q => ?_, PT_of (pt_cmpR (op_cmp (fa := fa) op (room200 hg.room) hg.top.prog hg.top.world) ha hb (plain_mark hp)) fun σ H Q q => ?_⟩
  · obtain ⟨A, G, S, g, s, p⟩ := q
    rw [hm] at p
    refine (sub g s p).mono fun x H1 ⟨A1, a, S1, e1, s1, r1, p1⟩ => ?_
    refine (sub (g.mono e1) s1 p1).mono fun y H2 ⟨A2, b, S2, e2, s2, r2, p2⟩ => ?_
    exact cmp_post s2 (Rep.mono e2 _ _ r1) r2 p2
  · obtain ⟨A, G, S, g, s, p⟩ := q
    dsimp only at p
    rw [hm] at p
    have e : ∀ (r : R D) (f : D → Store → R D), R.toB (r.bind f) = r.bind fun d S => R.toB (f d S) := fun r f => by cases r <;> rfl
    rw [e] at p
    refine (sub (rep1 := Rep X.K fa) g s p).mono fun x H1 ⟨A1, a, S1, e1, s1, r1, p1⟩ => ?_
    rw [e] at p1
    refine (sub (rep1 := Rep X.K fa) (g.mono e1) s1 p1).mono fun y H2 ⟨A2, b, S2, e2, s2, r2, p2⟩ => ?_
    cases hc : cmpOp op S2 a b with
    | none => rw [hc] at p2; exact p2.elim
    | some k =>
      rw [hc] at p2
      exact ⟨A2, S2, a, b, k, s2, Rep.mono e2 _ _ r1, r2, hc, k, rfl, p2 k H2 A2 Ext.refl s2 rfl⟩
theorem toB_bind (r : R D) (f : D → Store → R D) : R.toB (r.bind f) = r.bind fun d S => R.toB (f d S) := by cases r <;> rfl
theorem s_chn {op op' : CmpOp} {ma mb mc : ME} {a b c : Expr} {p : Pos} {m : ME} (hg : Good T fa ca k X) (hp : plain c = true) (ha : PE X a (tev X.K fa ca ma W)) (hb : PE X b (tev X.K fa ca mb W)) (hc : PE X c (tev X.K fa ca mc W))
    (hm : ∀ G S, m G S = (ma G S).bind fun x S1 => (mb G S1).bind fun y S2 => (R.opt (cmpOp op S2 x y) S2).bind fun t S2' => cond t ((mc G S2').bind fun z S3 => R.opt ((cmpOp op' S3 y z).map .bl) S3) (.ok (.bl false) S2')) : PE X (.Compare a [op, op'] [b, c] p) (tev X.K fa ca m W) ∧ PT X (.Compare a [op, op'] [b, c] p) (tevT X.K fa ca m W) := by
  refine ⟨PE_of (pe_chain (op_cmp (fa := fa) op (room200 hg.room) hg.top.prog hg.top.world) (op_cmp (fa := fa) op' (room200 hg.room) hg.top.prog hg.top.world) ha hb hc (plain_mark hp)) fun σ H Q q => ?_, PT_of (pt_chain (op_cmp (fa := fa) op (room200 hg.room) hg.top.prog hg.top.world) (op_cmp (fa := fa) op' (room200 hg.room) hg.top.prog hg.top.world) ha hb hc (plain_mark hp)) fun σ H Q q => ?_⟩
  · obtain ⟨A, G, S, g, s, p⟩ := q
    rw [hm] at p
    refine (sub g s p).mono fun x H1 ⟨A1, a, S1, e1, s1, r1, p1⟩ => ?_
    refine (sub (g.mono e1) s1 p1).mono fun y H2 ⟨A2, b, S2, e2, s2, r2, p2⟩ => ?_
    cases hc : cmpOp op S2 a b with
    | none => rw [hc] at p2; exact p2.elim
    | some k =>
      rw [hc] at p2
      refine ⟨A2, S2, a, b, k, s2, Rep.mono e2 _ _ r1, r2, hc, k, rfl, ?_⟩
      cases k with
      | false => exact iteF (p2 _ H2 A2 Ext.refl s2 (.bl _))
      | true =>
        refine iteT ((sub ((g.mono e1).mono e2) s2 p2).mono fun z H3 ⟨A3, c, S3, e3, s3, r3, p3⟩ => ?_)
        exact cmp_post s3 (Rep.mono e3 _ _ r2) r3 p3
  · obtain ⟨A, G, S, g, s, p⟩ := q
    dsimp only at p
    rw [hm, toB_bind] at p
    refine (sub (rep1 := Rep X.K fa) g s p).mono fun x H1 ⟨A1, a, S1, e1, s1, r1, p1⟩ => ?_
    rw [toB_bind] at p1
    refine (sub (rep1 := Rep X.K fa) (g.mono e1) s1 p1).mono fun y H2 ⟨A2, b, S2, e2, s2, r2, p2⟩ => ?_
    cases hc : cmpOp op S2 a b with
    | none => rw [hc] at p2; exact p2.elim
    | some k =>
      rw [hc] at p2
      refine ⟨A2, S2, a, b, k, s2, Rep.mono e2 _ _ r1, r2, hc, k, rfl, ?_⟩
      cases k with
      | false => exact iteF ⟨_, rfl, p2 _ H2 A2 Ext.refl s2 rfl⟩
      | true =>
        have p2 : RPost X.K fa ca RepB (R.toB ((mc G S2).bind fun z S3 => R.opt ((cmpOp op' S3 b z).map .bl) S3)) A2 H2 Q (fun c d H' => W c d σ H') := p2
        rw [toB_bind] at p2
        refine iteT ((sub (rep1 := Rep X.K fa) ((g.mono e1).mono e2) s2 p2).mono fun z H3 ⟨A3, c, S3, e3, s3, r3, p3⟩ => ?_)
        cases hc : cmpOp op' S3 b c with
        | none => rw [hc] at p3; exact p3.elim
        | some k =>
          rw [hc] at p3
          exact ⟨A3, S3, b, c, k, s3, Rep.mono e3 _ _ r2, r3, hc, k, rfl, p3 k H3 A3 Ext.refl s3 rfl⟩
/-! ### not, and, or, if -/
theorem toB_tst (r : R D) (f : Bool → Store → R D) : R.toB (tst r f) = (R.toB r).bind fun b S => R.toB (f b S) := by
  cases r with
  | ok d S => cases d <;> rfl
  | exc x S => rfl
  | bad => rfl
theorem tb_of {m : ME} {pe : Expr} (h : PE X pe (tev X.K fa ca m W)) {σ : L2.St} {H : Hp} {Q : Bool → Hp → Prop} (q : tevT X.K fa ca m W σ H Q) : tev X.K fa ca m W σ H (fun x H1 => ∃ c, x = .bl c ∧ Q c H1) := by
  obtain ⟨A, G, S, g, s, p⟩ := q
  refine ⟨A, G, S, g, s, ?_⟩
  dsimp only at p
  cases hm : m G S with
  | ok d S1 =>
    rw [hm] at p
    intro v H' A' e s' r
    cases d with
    | bl b => cases r; exact ⟨b, rfl, p b H' A' e s' rfl⟩
    | non => exact p.elim
    | int _ => exact p.elim
    | str _ => exact p.elim
    | tup _ => exact p.elim
    | lst _ => exact p.elim
    | loc _ => exact p.elim
    | fn _ => exact p.elim
    | scr _ => exact p.elim
  | exc x S1 => rw [hm] at p; exact p
  | bad => rw [hm] at p; exact p
theorem s_not {ma : ME} {a : Expr} {p : Pos} {m : ME} (ha : PE X a (tev X.K fa ca ma W) ∧ PT X a (tevT X.K fa ca ma W)) (hm : ∀ G S, m G S = tst (ma G S) fun b S1 => .ok (.bl (!b)) S1) :
    PE X (.UnaryOp .Not a p) (tev X.K fa ca m W) ∧ PT X (.UnaryOp .Not a p) (tevT X.K fa ca m W) := by
  refine ⟨PE_of (pe_not ha.1) fun σ H Q q => ?_, PT_of (pt_not ha.2) fun σ H Q q => ?_⟩
  · obtain ⟨A, G, S, g, s, p⟩ := q
    rw [hm, tst_eq] at p
    refine tb_of ha.1 ((sub (rep1 := RepB) (m1 := fun G S => R.toB (ma G S)) g s p).mono fun x H1 ⟨A1, b, S1, e1, s1, r1, p1⟩ => ?_)
    subst r1
    exact p1 _ H1 A1 Ext.refl s1 (.bl _)
  · obtain ⟨A, G, S, g, s, p⟩ := q
    dsimp only at p
    rw [hm, toB_tst] at p
    refine (sub (rep1 := RepB) (m1 := fun G S => R.toB (ma G S)) g s p).mono fun x H1 ⟨A1, b, S1, e1, s1, r1, p1⟩ => ?_
    subst r1
    exact p1 _ H1 A1 Ext.refl s1 rfl
theorem s_ite {mc ma mb : ME} {c a b : Expr} {p : Pos} {m : ME} (hc : PT X c (tevT X.K fa ca mc W)) (ha : PE X a (tev X.K fa ca ma W) ∧ PT X a (tevT X.K fa ca ma W)) (hb : PE X b (tev X.K fa ca mb W) ∧ PT X b (tevT X.K fa ca mb W))
    (hm : ∀ G S, m G S = tst (mc G S) fun t S1 => cond t (ma G S1) (mb G S1)) : PE X (.IfExp c a b p) (tev X.K fa ca m W) ∧ PT X (.IfExp c a b p) (tevT X.K fa ca m W) := by
  refine ⟨PE_of (pe_ifExp hc ha.1 hb.1) fun σ H Q q => ?_, ⟨fun pins s σ H Q I q => ?_⟩⟩
  · obtain ⟨A, G, S, g, s, p⟩ := q
    rw [hm, tst_eq] at p
    refine (sub (rep1 := RepB) (m1 := fun G S => R.toB (mc G S)) g s p).mono fun x H1 ⟨A1, b, S1, e1, s1, r1, p1⟩ => ?_
    subst r1
    cases x with
    | true => exact iteT ⟨A1, G, S1, g.mono e1, s1, p1⟩
    | false => exact iteF ⟨A1, G, S1, g.mono e1, s1, p1⟩
  · obtain ⟨A, G, S, g, sr, p⟩ := q
    dsimp only at p
    rw [hm, toB_tst] at p
    refine PyProof.Rows.isTrue_IfExp (thn (hc.run pins s σ H _ I ((sub (rep1 := RepB) (m1 := fun G S => R.toB (mc G S)) g sr p))) fun t s1 ⟨H1, I1, A1, b, S1, e1, s1', r1, p1⟩ => ?_)
    subst r1
    cases t with
    | true => exact iteT (ha.2.run pins s1 σ H1 Q I1 ⟨A1, G, S1, g.mono e1, s1', p1⟩)
    | false => exact iteF (hb.2.run pins s1 σ H1 Q I1 ⟨A1, G, S1, g.mono e1, s1', p1⟩)
end
end NW
end
section
/- An expression's run is the evaluator's answer: argument lists, displays, calls, what is walked, comprehensions. -/
namespace NW
open PySem PySem.Spec L2
section
variable {T : Tb} {fa : Fa} {ca : Nat → Addr} {k : Nat} {X : Cx} {W : WX} {C : Calls}

/-! ### and, or -/
theorem evAnd_one (e : E) (G : Env) (S : Store) : evAnd C (.cons e .nil) G S = evE C e G S := by simp only [evAnd]
theorem evAnd_more (e e2 : E) (es : Es) (G : Env) (S : Store) : evAnd C (.cons e (.cons e2 es)) G S = tst (evE C e G S) fun b S1 => cond b (evAnd C (.cons e2 es) G S1) (.ok (.bl false) S1) := by simp only [evAnd]
theorem evOr_one (e : E) (G : Env) (S : Store) : evOr C (.cons e .nil) G S = evE C e G S := by simp only [evOr]
theorem evOr_more (e e2 : E) (es : Es) (G : Env) (S : Store) : evOr C (.cons e (.cons e2 es)) G S = tst (evE C e G S) fun b S1 => cond b (.ok (.bl true) S1) (evOr C (.cons e2 es) G S1) := by simp only [evOr]
theorem s_and1 {ma : ME} {a : Expr} {p : Pos} {m : ME} (ha : PE X a (tev X.K fa ca ma W) ∧ PT X a (tevT X.K fa ca ma W)) (hm : ∀ G S, m G S = ma G S) : PE X (.BoolOp .And [a] p) (tev X.K fa ca m W) ∧ PW X (.BoolOp .And [a] p) (tevT X.K fa ca m W) := by
  have e : m = ma := funext fun G => funext fun S => hm G S
  subst e
  exact ⟨pe_one ha.1, pw_and1 ha.2⟩
theorem s_or1 {ma : ME} {a : Expr} {p : Pos} {m : ME} (ha : PE X a (tev X.K fa ca ma W) ∧ PT X a (tevT X.K fa ca ma W)) (hm : ∀ G S, m G S = ma G S) : PE X (.BoolOp .Or [a] p) (tev X.K fa ca m W) ∧ PW X (.BoolOp .Or [a] p) (tevT X.K fa ca m W) := by
  have e : m = ma := funext fun G => funext fun S => hm G S
  subst e
  exact ⟨pe_one ha.1, pw_or1 ha.2⟩
theorem PW_of {X : Cx} {e : Expr} {t t' : TT} (h : PW X e t) (i : ∀ σ H Q, t' σ H Q → t σ H Q) : PW X e t' := ⟨fun wh pins s σ H Q I q => h.run wh pins s σ H Q I (i σ H Q q)⟩
theorem s_andc {ma mb : ME} {a b : Expr} {rest : List Expr} {p : Pos} {m : ME} (ha : PE X a (tev X.K fa ca ma W) ∧ PT X a (tevT X.K fa ca ma W)) (hb : PE X (.BoolOp .And (b :: rest) p) (tev X.K fa ca mb W) ∧ PW X (.BoolOp .And (b :: rest) p) (tevT X.K fa ca mb W))
    (hm : ∀ G S, m G S = tst (ma G S) fun t S1 => cond t (mb G S1) (.ok (.bl false) S1)) : PE X (.BoolOp .And (a :: b :: rest) p) (tev X.K fa ca m W) ∧ PW X (.BoolOp .And (a :: b :: rest) p) (tevT X.K fa ca m W) := by
  refine ⟨PE_of (pe_and ha.1 hb.1) fun σ H Q q => ?_, PW_of (pw_and ha.2 hb.2) fun σ H Q q => ?_⟩
  · obtain ⟨A, G, S, g, s, p⟩ := q
    rw [hm, tst_eq] at p
    refine tb_of ha.1 ((sub (rep1 := RepB) (m1 := fun G S => R.toB (ma G S)) g s p).mono fun x H1 ⟨A1, b, S1, e1, s1, r1, p1⟩ => ?_)
    subst r1
    cases x with
    | true => exact iteT ⟨A1, G, S1, g.mono e1, s1, p1⟩
    | false => exact iteF (p1 _ H1 A1 Ext.refl s1 (.bl _))
  · obtain ⟨A, G, S, g, s, p⟩ := q
    dsimp only at p
    rw [hm, toB_tst] at p
    refine (sub (rep1 := RepB) (m1 := fun G S => R.toB (ma G S)) g s p).mono fun x H1 ⟨A1, b, S1, e1, s1, r1, p1⟩ => ?_
    subst r1
    cases x with
    | true => exact iteT ⟨A1, G, S1, g.mono e1, s1, p1⟩
    | false => exact iteF (p1 _ H1 A1 Ext.refl s1 rfl)
theorem s_orc {ma mb : ME} {a b : Expr} {rest : List Expr} {p : Pos} {m : ME} (ha : PE X a (tev X.K fa ca ma W) ∧ PT X a (tevT X.K fa ca ma W)) (hb : PE X (.BoolOp .Or (b :: rest) p) (tev X.K fa ca mb W) ∧ PW X (.BoolOp .Or (b :: rest) p) (tevT X.K fa ca mb W))
    (hm : ∀ G S, m G S = tst (ma G S) fun t S1 => cond t (.ok (.bl true) S1) (mb G S1)) : PE X (.BoolOp .Or (a :: b :: rest) p) (tev X.K fa ca m W) ∧ PW X (.BoolOp .Or (a :: b :: rest) p) (tevT X.K fa ca m W) := by
  refine ⟨PE_of (pe_or ha.1 hb.1) fun σ H Q q => ?_, PW_of (pw_or ha.2 hb.2) fun σ H Q q => ?_⟩
  · obtain ⟨A, G, S, g, s, p⟩ := q
    rw [hm, tst_eq] at p
    refine tb_of ha.1 ((sub (rep1 := RepB) (m1 := fun G S => R.toB (ma G S)) g s p).mono fun x H1 ⟨A1, b, S1, e1, s1, r1, p1⟩ => ?_)
    subst r1
    cases x with
    | false => exact iteF ⟨A1, G, S1, g.mono e1, s1, p1⟩
    | true => exact iteT (p1 _ H1 A1 Ext.refl s1 (.bl _))
  · obtain ⟨A, G, S, g, s, p⟩ := q
    dsimp only at p
    rw [hm, toB_tst] at p
    refine (sub (rep1 := RepB) (m1 := fun G S => R.toB (ma G S)) g s p).mono fun x H1 ⟨A1, b, S1, e1, s1, r1, p1⟩ => ?_
    subst r1
    cases x with
    | false => exact iteF ⟨A1, G, S1, g.mono e1, s1, p1⟩
    | true => exact iteT (p1 _ H1 A1 Ext.refl s1 rfl)

/-! ### argument lists, displays -/
theorem evEs_cons (e : E) (es : Es) (G : Env) (S : Store) : evEs C (.cons e es) G S = (evE C e G S).bind fun d S1 => (evEs C es G S1).bind fun ds S2 => .ok (d :: ds) S2 := by
  simp only [evEs]
theorem s_nil : PA X [] (tevs X.K fa ca (evEs C .nil) W) := by
  refine PA_of pa_nil fun σ H Q q => ?_
  obtain ⟨A, G, S, g, s, p⟩ := q
  simp only [evEs] at p
  exact p [] H A Ext.refl s .nil
theorem s_cons {e : E} {es : Es} {pe : Expr} {ps : List Expr} (hp : plain pe = true) (ha : PE X pe (tev X.K fa ca (evE C e) W)) (hb : PA X ps (tevs X.K fa ca (evEs C es) W)) : PA X (pe :: ps) (tevs X.K fa ca (evEs C (.cons e es)) W) := by
  refine PA_of (pa_cons ha hb (plain_star hp _ _)) fun σ H Q q => ?_
  obtain ⟨A, G, S, g, s, p⟩ := q
  rw [evEs_cons] at p
  refine (sub (rep1 := Rep X.K fa) g s p).mono fun x H1 ⟨A1, a, S1, e1, s1, r1, p1⟩ => ?_
  refine (sub (rep1 := RepL X.K fa) (g.mono e1) s1 p1).mono fun y H2 ⟨A2, b, S2, e2, s2, r2, p2⟩ => ?_
  exact p2 _ H2 A2 Ext.refl s2 (.cons (Rep.mono e2 _ _ r1) r2)
theorem s_tup {es : Es} {ps : List Expr} {j : Nat} {p : Pos} (ha : PA X ps (tevs X.K fa ca (evEs C es) W)) : PE X (.Tuple ps j p) (tev X.K fa ca (evE C (.tup es)) W) := by
  refine PE_of (pe_tup ha) fun σ H Q q => ?_
  obtain ⟨A, G, S, g, s, p⟩ := q
  simp only [evE] at p
  refine (sub (rep1 := RepL X.K fa) g s p).mono fun xs H1 ⟨A1, ds, S1, e1, s1, r1, p1⟩ => ?_
  split at p1
  · rename_i hz
    exact ⟨by rw [r1.length, ← line_eq]; exact hz, fun q hq => (ans_of p1).tup s1 r1 hq⟩
  · exact p1.elim
theorem s_lst {es : Es} {ps : List Expr} {p : Pos} (ha : PA X ps (tevs X.K fa ca (evEs C es) W)) : PE X (.List ps p) (tev X.K fa ca (evE C (.lst es)) W) := by
  refine PE_of (pe_lst ha) fun σ H Q q => ?_
  obtain ⟨A, G, S, g, s, p⟩ := q
  simp only [evE] at p
  refine (sub (rep1 := RepL X.K fa) g s p).mono fun xs H1 ⟨A1, ds, S1, e1, s1, r1, p1⟩ => ?_
  split at p1
  · rename_i hz
    exact ⟨by rw [r1.length, ← line_eq]; exact hz, fun q hq => (ans_of p1).lst s1 r1 hq⟩
  · exact p1.elim
theorem s_nlst {es : Es} {ps : List Expr} {p : Pos} (ha : PA X ps (tevs X.K fa ca (evEs C es) W)) : PE X (.List ps p) (tev X.K fa ca (evE C (.nlst es)) W) := by
  refine PE_of (pe_lst ha) fun σ H Q q => ?_
  obtain ⟨A, G, S, g, s, p⟩ := q
  simp only [evE] at p
  refine (sub (rep1 := RepL X.K fa) g s p).mono fun xs H1 ⟨A1, ds, S1, e1, s1, r1, p1⟩ => ?_
  split at p1
  · rename_i hz
    refine ⟨by rw [r1.length, ← line_eq]; exact hz, fun q hq => p1 _ _ _ (Ext.place s1 hq) (s1.place hq r1) (.loc ?_)⟩
    show (A1.pl ++ [q])[_]? = _
    rw [← s1.len]; simp
  · exact p1.elim

theorem s_dnew {p : Pos} : PE X (.Dict [] [] p) (tev X.K fa ca (evE C .dnew) W) := by
  refine PE_of (pe_dnewX (fa := fa)) fun σ H Q q => ?_
  obtain ⟨A, G, S, g, s, p⟩ := q
  simp only [evE] at p
  intro q hq
  refine p _ _ (A.snoc q) (Ext.place s hq) (s.placeO hq (.dct upd_same .nil)) (.loc ?_)
  show (A.pl ++ [q])[_]? = _
  rw [← s.len]; simp
theorem s_dnewS {p : Pos} : PE X (.Dict [] [] p) (tev X.K fa ca (evE C .dnewS) W) := by
  refine PE_of pe_dnewK fun σ H Q q => ?_
  obtain ⟨A, G, S, g, s, p⟩ := q
  simp only [evE] at p
  intro q hq
  refine p _ _ (A.snoc q) (Ext.place s hq) (s.placeO hq (.dks (f := false) (by show (upd H q _) q = _; exact upd_same) .nil)) (.loc ?_)
  show (A.pl ++ [q])[_]? = _
  rw [← s.len]; simp
theorem strOf_some {d : D} {z : Str} (h : strOf d = some z) : d = .str z := by
  cases d <;> simp only [strOf] at h <;> first | (cases h; done) | (cases h; rfl)
theorem s_split {a b : E} {pa pb : Expr} {ap cp : Pos} (hbase : baseOk pa = true) (hline : (ap.endLine == cp.line) = true) (hp : plain pb = true) (ha : PE X pa (tev X.K fa ca (evE C a) W)) (hb : PE X pb (tev X.K fa ca (evE C b) W)) :
    PE X (.Call (.Attribute pa "split" ap) [pb] [] cp) (tev X.K fa ca (evE C (.split a b)) W) := by
  refine PE_of (pe_split ha hb (plain_star hp _ _) (baseOk_ok hbase) hline) fun σ H Q q => ?_
  obtain ⟨A, G, S, g, s, p⟩ := q
  simp only [evE] at p
  refine (sub (rep1 := Rep X.K fa) g s p).mono fun x H1 ⟨A1, d, S1, e1, s1, r1, p1⟩ => ?_
  cases hz : strOf d with
  | none => rw [hz] at p1; exact p1.elim
  | some z =>
    rw [hz] at p1
    cases strOf_some hz
    cases r1
    refine ⟨⟨z, rfl⟩, (sub (rep1 := Rep X.K fa) (g.mono e1) s1 p1).mono fun y H2 ⟨A2, d2, S2, e2, s2, r2, p2⟩ => ?_⟩
    obtain ⟨r, hr, p2⟩ := opt_post p2
    unfold splitD at hr
    obtain ⟨w, hw, hr2⟩ := Option.bind_eq_some_iff.mp hr
    clear hr
    cases strOf_some hw
    cases r2
    split at hr2
    · rename_i hc
      cases hr2
      refine ⟨z, w, rfl, rfl, hc.1, by rw [← line_eq]; exact hc.2, fun p hp => ?_⟩
      exact (ans_of p2).lst s2 (RepL.strs _) hp
    · cases hr2
theorem s_join {a b : E} {pa pb : Expr} {ap cp : Pos} (hbase : baseOk pa = true) (hline : (ap.endLine == cp.line) = true) (hp : plain pb = true) (ha : PE X pa (tev X.K fa ca (evE C a) W)) (hb : PE X pb (tev X.K fa ca (evE C b) W)) :
    PE X (.Call (.Attribute pa "join" ap) [pb] [] cp) (tev X.K fa ca (evE C (.join a b)) W) := by
  refine PE_of (pe_join ha hb (plain_star hp _ _) (baseOk_ok hbase) hline) fun σ H Q q => ?_
  obtain ⟨A, G, S, g, s, p⟩ := q
  simp only [evE] at p
  refine (sub (rep1 := Rep X.K fa) g s p).mono fun x H1 ⟨A1, d, S1, e1, s1, r1, p1⟩ => ?_
  cases hz : strOf d with
  | none => rw [hz] at p1; exact p1.elim
  | some z =>
    rw [hz] at p1
    cases strOf_some hz
    cases r1
    refine ⟨⟨z, rfl⟩, (sub (rep1 := Rep X.K fa) (g.mono e1) s1 p1).mono fun y H2 ⟨A2, d2, S2, e2, s2, r2, p2⟩ => ?_⟩
    obtain ⟨r, hr, p2⟩ := opt_post p2
    unfold joinD at hr
    obtain ⟨ds, hd, hr⟩ := Option.bind_eq_some_iff.mp hr
    obtain ⟨ys, hy, hr⟩ := Option.bind_eq_some_iff.mp hr
    split at hr
    · rename_i hc
      cases hr
      obtain ⟨l, xs, rfl, hl, rl⟩ := listOf_rep s2 r2 hd
      refine ⟨z, l, ys, rfl, rfl, .inl ?_, hc, (ans_of p2).here s2 (.str _)⟩
      rw [← allStr_rep rl hy]
      exact SqL.of hl
    · cases hr
/-! ### items, slices -/
theorem s_idx {a i : E} {pa pi : Expr} {p : Pos} (hg : Good T fa ca k X) (hp : plain pi = true) (ha : PE X pa (tev X.K fa ca (evE C a) W)) (hi : PE X pi (tev X.K fa ca (evE C i) W)) : PE X (.Subscript pa pi p) (tev X.K fa ca (evE C (.idx a i)) W) := by
  refine PE_of (pe_ix (ix_all (fa := fa) (room200 hg.room) hg.top.prog hg.top.world) ha hi (plain_ix hp)) fun σ H Q q => ?_
  obtain ⟨A, G, S, g, s, p⟩ := q
  simp only [evE] at p
  refine (sub g s p).mono fun x H1 ⟨A1, a, S1, e1, s1, r1, p1⟩ => ?_
  refine (sub (g.mono e1) s1 p1).mono fun y H2 ⟨A2, b, S2, e2, s2, r2, p2⟩ => ?_
  obtain ⟨d, hd, p2⟩ := opt_post p2
  exact ⟨A2, S2, a, b, d, s2, Rep.mono e2 _ _ r1, r2, hd, ans_of p2⟩
/-- a slice's part -/
abbrev RepP : Pl → Hp → Option Int → Option Int → Prop := fun _ _ o d => d = o
theorem s_none : PO X none (tevG X.K fa ca RepP (evO C .none) W) := by
  refine PO_of po_none fun σ H Q q => ?_
  obtain ⟨A, G, S, g, s, p⟩ := q
  simp only [evO] at p
  exact p none H A Ext.refl s rfl
theorem s_some {e : E} {pe : Expr} (ha : PE X pe (tev X.K fa ca (evE C e) W)) : PO X (some pe) (tevG X.K fa ca RepP (evO C (.some e)) W) := by
  refine PO_of (po_some ha) fun σ H Q q => ?_
  obtain ⟨A, G, S, g, s, p⟩ := q
  simp only [evO] at p
  refine (sub (rep1 := Rep X.K fa) g s p).mono fun x H1 ⟨A1, a, S1, e1, s1, r1, p1⟩ => ?_
  cases a with
  | int i => cases r1; exact ⟨i, rfl, p1 (some i) H1 A1 Ext.refl s1 rfl⟩
  | non => exact p1.elim
  | bl _ => exact p1.elim
  | str _ => exact p1.elim
  | tup _ => exact p1.elim
  | lst _ => exact p1.elim
  | loc _ => exact p1.elim
  | fn _ => exact p1.elim
  | scr _ => exact p1.elim
theorem s_sl {a : E} {lo hi : Oe} {pa : Expr} {pl ph : Option Expr} {p p2 : Pos} (ha : PE X pa (tev X.K fa ca (evE C a) W)) (hl : PO X pl (tevG X.K fa ca RepP (evO C lo) W)) (hh : PO X ph (tevG X.K fa ca RepP (evO C hi) W)) :
    PE X (.Subscript pa (.Slice pl ph none p2) p) (tev X.K fa ca (evE C (.sl a lo hi)) W) := by
  refine PE_of (pe_slice (sl_all (fa := fa)) ha hl hh) fun σ H Q q => ?_
  obtain ⟨A, G, S, g, s, p⟩ := q
  simp only [evE] at p
  refine (sub g s p).mono fun x H1 ⟨A1, a, S1, e1, s1, r1, p1⟩ => ?_
  refine (sub (rep1 := RepP) (g.mono e1) s1 p1).mono fun l H2 ⟨A2, b, S2, e2, s2, r2, p2⟩ => ?_
  refine (sub (rep1 := RepP) ((g.mono e1).mono e2) s2 p2).mono fun u H3 ⟨A3, c, S3, e3, s3, r3, p3⟩ => ?_
  cases r2
  cases r3
  obtain ⟨d, hd, p4⟩ := opt_post p3
  exact ⟨A3, S3, a, d, s3, Rep.mono e3 _ _ (Rep.mono e2 _ _ r1), hd, ans_of p4⟩

/-! ### calls -/
theorem s_cb {f : Bf} {es : Es} {x : Str} {ps : List Expr} {p p2 : Pos} (hg : Good T fa ca k X) (hx : gl X.env.scope x = true) (hn : f.name = x) (hne : ps.isEmpty = false) (hpl : ∀ q ∈ ps, plain q = true) (ha : PA X ps (tevs X.K fa ca (evEs C es) W)) :
    PE X (.Call (.Name x p2) ps [] p) (tev X.K fa ca (evE C (.cb f es)) W) := by
  obtain ⟨g1, g2⟩ := gl_of hx
  obtain ⟨n1, n2, n3⟩ := okN_of g2
  cases ps with
  | nil => cases hne
  | cons pe ps =>
    have hm : X.mg x = none := hg.top.blt x (by rw [← hn]; cases f <;> decide +kernel)
    have go : PE X (.Call (.Name x p2) (pe :: ps) [] p) (tCB (rCB X.K fa f) (tevs X.K fa ca (evEs C es) W)) := by
      have c := call_bf (fa := fa) hg.calm (room200 hg.room) f
      subst hn
      cases f with
      | len => exact pe_callB c g1 hm (by decide +kernel) ha n3 n1 (plain_star (hpl _ List.mem_cons_self) _ _) (star_none fun q hq => hpl q (List.mem_cons_of_mem _ hq))
      | abs => exact pe_callB c g1 hm (by decide +kernel) ha n3 n1 (plain_star (hpl _ List.mem_cons_self) _ _) (star_none fun q hq => hpl q (List.mem_cons_of_mem _ hq))
      | int => exact pe_callTy c g1 hm (by decide +kernel) ha n3 n1 (plain_star (hpl _ List.mem_cons_self) _ _) (star_none fun q hq => hpl q (List.mem_cons_of_mem _ hq))
      | list => exact pe_callTy c g1 hm (by decide +kernel) ha n3 n1 (plain_star (hpl _ List.mem_cons_self) _ _) (star_none fun q hq => hpl q (List.mem_cons_of_mem _ hq))
      | tuple => exact pe_callTy c g1 hm (by decide +kernel) ha n3 n1 (plain_star (hpl _ List.mem_cons_self) _ _) (star_none fun q hq => hpl q (List.mem_cons_of_mem _ hq))
      | all => exact pe_callB c g1 hm (by decide +kernel) ha n3 n1 (plain_star (hpl _ List.mem_cons_self) _ _) (star_none fun q hq => hpl q (List.mem_cons_of_mem _ hq))
      | sum => exact pe_callB c g1 hm (by decide +kernel) ha n3 n1 (plain_star (hpl _ List.mem_cons_self) _ _) (star_none fun q hq => hpl q (List.mem_cons_of_mem _ hq))
      | min => exact pe_callB c g1 hm (by decide +kernel) ha n3 n1 (plain_star (hpl _ List.mem_cons_self) _ _) (star_none fun q hq => hpl q (List.mem_cons_of_mem _ hq))
      | str => exact pe_callTy c g1 hm (by decide +kernel) ha n3 n1 (plain_star (hpl _ List.mem_cons_self) _ _) (star_none fun q hq => hpl q (List.mem_cons_of_mem _ hq))
      | sorted => exact pe_callB c g1 hm (by decide +kernel) ha n3 n1 (plain_star (hpl _ List.mem_cons_self) _ _) (star_none fun q hq => hpl q (List.mem_cons_of_mem _ hq))
      | max => exact pe_callB c g1 hm (by decide +kernel) ha n3 n1 (plain_star (hpl _ List.mem_cons_self) _ _) (star_none fun q hq => hpl q (List.mem_cons_of_mem _ hq))
    refine PE_of go fun σ H Q q => ?_
    obtain ⟨A, G, S, g, s, p⟩ := q
    simp only [evE] at p
    refine (sub (rep1 := RepL X.K fa) g s p).mono fun x H1 ⟨A1, ds, S1, e1, s1, r1, p1⟩ => ?_
    obtain ⟨d, hd, p1⟩ := opt_post p1
    exact ⟨A1, S1, ds, d, s1, r1, hd, ans_of p1⟩
theorem pe_callS0 {CX : CXT} {k : Nat} {f : Addr} {fd : FuncData} {ps : List Str} {sp : Sp} {E : L2.St → XK} {x : Str} {p pos : Pos} (F : FnOk X.prog X.w X.K X.mg X.base CX k f fd ps sp) (hr : Room k X.A) (hg : Gl X x) (hm : X.mg x = some (.ref f)) (hk : PySem.W.keepIn X.K (.ref f) = true) (hb : Binds X.K fd ps []) (hx : ∀ σ, PassesAt CX X σ (E σ))
    (hdb : (x == ("__debug__" : Str)) = false) : PE X (.Call (.Name x p) [] [] pos) (tCallS sp E tNil) := by
  refine ⟨fun pins s σ H Q I h => ?_⟩
  refine wpAny_Call_Name_kw (ld_glob I hg hm ?_ hdb)
  exact PySem.W.callWith_K0 I.kIn hk (run_fnS (us := []) F hr hb (hx σ) I .nil h)
theorem s_call {f : Nat} {fd : FD} {es : Es} {x : Str} {ps : List Expr} {p p2 : Pos} (hg : Good T fa ca k X) (tk : Takes X W) (hf : T.fn f = some fd) (hx : gl X.env.scope x = true) (hn : fd.name = x) (hpl : ∀ q ∈ ps, plain q = true) (hes : mEs T X.N es X.env.scope ps = true)
    (ha : PA X ps (tevs X.K fa ca (evEs (callN T.fn k) es) W)) : PE X (.Call (.Name x p2) ps [] p) (tev X.K fa ca (evE (callN T.fn k) (.call f es)) W) := by
  obtain ⟨g1, g2⟩ := gl_of hx
  obtain ⟨n1, n2, n3⟩ := okN_of g2
  obtain ⟨hl, fdat, m1, m2, m3, F⟩ := hg.top.fns f fd hf
  subst hn
  have fin : ∀ {σ : L2.St} {H : Hp} {Q : VK}, tev X.K fa ca (evE (callN T.fn k) (.call f es)) W σ H Q → tevs X.K fa ca (evEs (callN T.fn k) es) W σ H fun vs H1 => spF T X.K fa ca k f vs H1 Q (WE W σ) := fun {σ H Q} q => by
    obtain ⟨A, G, S, g, s, p⟩ := q
    simp only [evE] at p
    refine (sub (rep1 := RepL X.K fa) g s p).mono fun vs H1 ⟨A1, ds, S1, e1, s1, r1, p1⟩ => ?_
    refine ⟨⟨fd, hf, ?_⟩, A1, S1, ds, s1, r1, p1⟩
    rw [hl, r1.length]
    cases k with
    | zero => exact p1.elim
    | succ k =>
      simp only [callN, hf] at p1
      split at p1
      · assumption
      · exact p1.elim
  cases ps with
  | nil =>
    refine PE_of (pe_callS0 F hg.room g1 m1 m2 m3 (passAt tk) n1) fun σ H Q q => ?_
    have q := fin q
    cases es with
    | cons _ _ => simp only [mEs] at hes; cases hes
    | nil =>
      obtain ⟨A, G, S, g, s, p⟩ := q
      simp only [evEs] at p
      exact p [] H A Ext.refl s .nil
  | cons pe ps =>
    exact PE_of (pe_callS F hg.room g1 m1 m2 m3 (passAt tk) ha n1 (plain_star (hpl _ List.mem_cons_self) _ _) (star_none fun q hq => hpl q (List.mem_cons_of_mem _ hq))) fun σ H Q q => fin q
/-! ### defs as values -/
theorem s_fnv {f : Nat} {fd : FD} {x : Str} {p : Pos} (hg : Good T fa ca k X) (hf : T.fn f = some fd) (hx : gl X.env.scope x = true) (hn : fd.name = x) : PE X (.Name x p) (tev X.K fa ca (evE C (.fnv f)) W) := by
  obtain ⟨g1, g2⟩ := gl_of hx
  obtain ⟨hl, fdat, m1, m2, m3, F⟩ := hg.top.fns f fd hf
  subst hn
  exact s_leaf (m := evE C (.fnv f)) (pe_glob (X := X) (v := .ref (fa f)) g1 m1 rfl (okN_of g2).1) (fun _ _ => .fn f (by rw [hg.top.fdk f, hf]; rfl)) (fun G S => by simp only [evE])
def tLC (T : Tb) (K : PySem.W.Frag) (fa : Fa) (ca : Nat → Addr) (k i : Nat) (E : L2.St → XK) (t : TA) : TE := fun σ H Q => ∃ f fd, T.fn f = some fd ∧ σ[i]? = some (some (.ref (fa f))) ∧ t σ H fun vs H1 => spF T K fa ca k f vs H1 Q (E σ)
theorem pe_lc0 {i : Nat} {x : Str} {p pos : Pos} {E : L2.St → XK} (hg : Good T fa ca k X) (hN : X.N[i]? = some x) (hv : Vis X.env.scope x) (hx : ∀ σ, PassesAt (L2.CX X.prog X.w) X σ (E σ)) (n1 : (x == ("__debug__" : Str)) = false) (n2 : (x == ("__classdict__" : Str)) = false) :
    PE X (.Call (.Name x p) [] [] pos) (tLC T X.K fa ca k i E tNil) := by
  refine ⟨fun pins s σ H Q I h => ?_⟩
  obtain ⟨f, fd, hf, hs, h⟩ := h
  obtain ⟨hl, fdat, m1, m2, m3, F⟩ := hg.top.fns f fd hf
  refine wpAny_Call_Name_kw (thn ((pe_var (pos := p) hN hv n1 n2).run pins s σ H (fun v H1 => v = .ref (fa f) ∧ H1 = H) I ⟨.ref (fa f), hs, rfl, rfl⟩) fun u s1 ⟨v, H1, I1, r1, q1⟩ => ?_)
  obtain ⟨rfl, rfl⟩ := q1
  cases r1
  exact PySem.W.callWith_K0 I1.kIn m2 (run_fnS (us := []) F hg.room m3 (hx σ) I1 .nil h)
theorem pe_lcS {i : Nat} {x : Str} {p pos : Pos} {E : L2.St → XK} {e : Expr} {es : List Expr} {t : TA} (hg : Good T fa ca k X) (hN : X.N[i]? = some x) (hv : Vis X.env.scope x) (hx : ∀ σ, PassesAt (L2.CX X.prog X.w) X σ (E σ)) (ha : PA X (e :: es) t) (n1 : (x == ("__debug__" : Str)) = false) (n2 : (x == ("__classdict__" : Str)) = false)
    (he : starEach (e :: es) X.env = (false, eval e X.env) :: starEach es X.env) (hpl : (backTo pos (starEach es X.env)).any (·.1) = false) : PE X (.Call (.Name x p) (e :: es) [] pos) (tLC T X.K fa ca k i E t) := by
  refine ⟨fun pins s σ H Q I h => ?_⟩
  obtain ⟨f, fd, hf, hs, h⟩ := h
  obtain ⟨hl, fdat, m1, m2, m3, F⟩ := hg.top.fns f fd hf
  refine wpAny_Call_Name_kw (thn ((pe_var (pos := p) hN hv n1 n2).run pins s σ H (fun v H1 => v = .ref (fa f) ∧ H1 = H) I ⟨.ref (fa f), hs, rfl, rfl⟩) fun u s1 ⟨v, H1, I1, r1, q1⟩ => ?_)
  obtain ⟨rfl, rfl⟩ := q1
  cases r1
  refine PySem.W.callWith_K (h₀ := X.base) I.ok.mod.kin m2 (thn (ha.run pos pins s1 σ _ _ I1 h) fun us s2 ⟨vs, H2, I2, r, q⟩ => ⟨I2.kIn, ?_⟩) he hpl
  exact run_fnS F hg.room m3 (hx σ) I2 r q
theorem s_lcall {i : Nat} {es : Es} {x : Str} {ps : List Expr} {p p2 : Pos} (hg : Good T fa ca k X) (tk : Takes X W) (hN : X.N[i]? = some x) (hv : vis X.env.scope x = true) (hpl : ∀ q ∈ ps, plain q = true) (hes : mEs T X.N es X.env.scope ps = true)
    (ha : PA X ps (tevs X.K fa ca (evEs (callN T.fn k) es) W)) : PE X (.Call (.Name x p2) ps [] p) (tev X.K fa ca (evE (callN T.fn k) (.lcall i es)) W) := by
  obtain ⟨v1, v2⟩ := vis_of hv
  obtain ⟨n1, n2, n3⟩ := okN_of v2
  have fin : ∀ {σ : L2.St} {H : Hp} {Q : VK}, tev X.K fa ca (evE (callN T.fn k) (.lcall i es)) W σ H Q → tLC T X.K fa ca k i (WE W) (tevs X.K fa ca (evEs (callN T.fn k) es) W) σ H Q := fun {σ H Q} q => by
    obtain ⟨A, G, S, g, s, p⟩ := q
    simp only [evE] at p
    cases hfn : fnOf G i with
    | none => rw [hfn] at p; exact p.elim
    | some f =>
      rw [hfn] at p
      have hG : G[i]? = some (some (.fn f)) := by
        unfold fnOf at hfn
        split at hfn
        · rename_i f' e; cases hfn; exact e
        · cases hfn
      obtain ⟨v, h1, r1⟩ := g.2 i _ hG
      cases r1 with
      | fn _ kn =>
      replace p : RPost X.K fa ca (Rep X.K fa) ((evEs (callN T.fn k) es G S).bind fun ds S1 => callN T.fn k f ds S1) A H Q (fun c d H' => W c d σ H') := p
      cases hT : T.fn f with
      | none => rw [hg.top.fdk f, hT] at kn; cases kn
      | some fd =>
        refine ⟨f, fd, hT, h1, ?_⟩
        refine (sub (rep1 := RepL X.K fa) g s p).mono fun vs H1 ⟨A1, ds, S1, e1, s1, r1, p1⟩ => ?_
        refine ⟨⟨fd, hT, ?_⟩, A1, S1, ds, s1, r1, p1⟩
        rw [(hg.top.fns f fd hT).1, r1.length]
        cases k with
        | zero => exact p1.elim
        | succ k =>
          simp only [callN, hT] at p1
          split at p1
          · assumption
          · exact p1.elim
  cases ps with
  | nil =>
    refine PE_of (pe_lc0 hg hN v1 (passAt tk) n1 n2) fun σ H Q q => ?_
    obtain ⟨f, fd, hf, hs, q⟩ := fin q
    refine ⟨f, fd, hf, hs, ?_⟩
    cases es with
    | cons _ _ => simp only [mEs] at hes; cases hes
    | nil =>
      obtain ⟨A, G, S, g, s, p⟩ := q
      simp only [evEs] at p
      exact p [] H A Ext.refl s .nil
  | cons pe ps =>
    exact PE_of (pe_lcS hg hN v1 (passAt tk) ha n1 n2 (plain_star (hpl _ List.mem_cons_self) _ _) (star_none fun q hq => hpl q (List.mem_cons_of_mem _ hq))) fun σ H Q q => fin q
end
end NW
end
section
/- isinstance; what is walked; targets; comprehensions; the whole of expressions. -/
namespace NW
open PySem PySem.Spec L2
section
variable {T : Tb} {fa : Fa} {ca : Nat → Addr} {k : Nat} {X : Cx} {W : WX} {C : Calls}
theorem s_isi {a : E} {t : Ty} {x y : Str} {pa : Expr} {p p2 p3 : Pos} (hg : Good T fa ca k X) (hx : gl X.env.scope x = true) (hy : gl X.env.scope y = true) (ex : x = ("isinstance" : Str)) (ey : y = Str.ofString t.nm) (hp : plain pa = true) (ha : PE X pa (tev X.K fa ca (evE C a) W)) :
    PE X (.Call (.Name x p2) [pa, .Name y p3] [] p) (tev X.K fa ca (evE C (.isi a t)) W) := by
  obtain ⟨g1, g2⟩ := gl_of hx
  obtain ⟨n1, n2, n3⟩ := okN_of g2
  obtain ⟨g1', g2'⟩ := gl_of hy
  obtain ⟨n1', n2', n3'⟩ := okN_of g2'
  subst ex ey
  have hm : X.mg ("isinstance" : Str) = none := hg.top.blt _ (by decide +kernel)
  have ht : PE X (.Name (Str.ofString t.nm) p3) (tC (.ty t.nm)) := pe_bltn (u := .type t.nm) g1' (hg.top.tys t) (by cases t <;> decide +kernel) rfl n3' n1'
  refine PE_of (pe_callB call_isi g1 hm (by decide +kernel) (pa_cons ha (pa_cons ht pa_nil) (plain_star hp _ _)) n3 n1 (plain_star hp _ _) (star_none fun q hq => by rw [List.mem_singleton.mp hq] <;> rfl)) fun σ H Q q => ?_
  obtain ⟨A, G, S, g, s, p⟩ := q
  simp only [evE] at p
  refine (sub g s p).mono fun x H1 ⟨A1, a, S1, e1, s1, r1, p1⟩ => ?_
  obtain ⟨d, hd, p1⟩ := opt_post p1
  obtain ⟨b, hb, rfl⟩ := Option.map_eq_some_iff.mp hd
  obtain ⟨n, ty, kt⟩ := ty_rep s1 r1 hb
  exact ⟨x, .ty t.nm, .type n, .type t.nm, b, rfl, .ty _, ty, kit_ty kt, p1 _ H1 A1 Ext.refl s1 (.bl b)⟩

/-! ### what is walked -/
/-- values may be carried over -/
structure Car (A : Pl) (H : Hp) (A1 : Pl) (H1 : Hp) : Prop where
  pl : ∀ (n : Nat) (a : Addr), A.pl[n]? = some a → A1.pl[n]? = some a
  keep : ∀ a o, a ∉ A.pl → a ∉ A.fb → H a = some o → H1 a = some o ∧ a ∉ A1.pl ∧ a ∉ A1.fb
  frz : ∀ a o u, H a = some (.frz o u) → H1 a = some (.frz o u)
variable {K : PySem.W.Frag} {A A1 A2 A' : Pl} {H H1 H2 H' : Hp} {σ : L2.St} {G : Env}
theorem Car.rep (c : Car A H A1 H1) {d : D} {v : V} (r : Rep K fa A H v d) : Rep K fa A1 H1 v d := Rep.carry c.pl c.keep d v r
theorem Car.repL (c : Car A H A1 H1) {d : List D} {v : List V} (r : RepL K fa A H v d) : RepL K fa A1 H1 v d := RepL.carry c.pl c.keep d v r
theorem Car.grel (c : Car A H A1 H1) (g : GRel K fa A H σ G) : GRel K fa A1 H1 σ G := ⟨g.1, fun i d h => let ⟨v, h1, h2⟩ := g.2 i d h; ⟨v, h1, c.rep h2⟩⟩
theorem Ext.car (e : Ext A H A1 H1) : Car A H A1 H1 := ⟨fun _ _ m => e.at m, e.rep, e.frz⟩
def Serves (K : PySem.W.Frag) (fa : Fa) (A : Pl) (H : Hp) (J : L2.It) (src : Src) : Prop := ∀ A1 H1 S1, Car A H A1 H1 → SRel K fa A1 H1 S1 → src.stays S1 = true →
  (∀ (i : Nat) (d : D), src.items[i]? = some d → J.go i H1 ∧ ∀ x H', J.yld i H1 x H' → Ext A1 H1 A1 H' ∧ SRel K fa A1 H' S1 ∧ Rep K fa A1 H' x d) ∧ ∀ i, src.items.length ≤ i → J.stop i H1
def iSeq (K : PySem.W.Frag) (tl : TE) : TI := fun σ H R => tl σ H fun x H1 => ∃ a, x = .ref a ∧ (((∃ xs, SqL K H1 a xs) ∧ R (Itl K a) H1) ∨ ((∃ xs, SqT K H1 a xs) ∧ R (Itt K a) H1))
theorem pi_seq {tg l : Expr} {tl : TE} (hl : PE X l tl) : PI X tg l (iSeq X.K tl) := by
  refine ⟨fun pins s σ H R I h => ?_⟩
  refine thn (hl.run pins s σ H _ I h) fun v s1 ⟨x, H1, I1, r1, q1⟩ => ?_
  obtain ⟨a, e, q⟩ := q1
  subst e
  cases r1
  rcases q with ⟨⟨xs, hq⟩, q⟩ | ⟨⟨xs, hq⟩, q⟩
  · obtain ⟨its, rv, p, hz⟩ := I1.list hq
    refine wpAny_pyIter_list p.isList ?_
    refine ⟨s1.heap.objs.size, [s1.heap.objs.size], _, _, H1, rfl, I1.kept (t' := s1.toks) fun b o e => Heap.get?_push_of_some _ e, turn_list a _, ⟨_, Heap.get?_push_size _ rfl, rfl, rfl⟩, fun b hb => ?_, q⟩
    have e : b = s1.heap.objs.size := by simpa using hb
    subst e
    exact I1.fpOk (Nat.le_refl _) (I1.hok.fresh (Nat.le_refl _))
  · obtain ⟨its, rv, p, hz⟩ := I1.tuple hq
    refine wpAny_pyIter_tuple (show s1.heap.IsTuple a its.toArray from p) ?_
    refine ⟨s1.heap.objs.size, [s1.heap.objs.size], _, _, H1, rfl, I1.kept (t' := s1.toks) fun b o e => Heap.get?_push_of_some _ e, turn_tuple a _, ⟨_, Heap.get?_push_size _ rfl, rfl, rfl⟩, fun b hb => ?_, q⟩
    have e : b = s1.heap.objs.size := by simpa using hb
    subst e
    exact I1.fpOk (Nat.le_refl _) (I1.hok.fresh (Nat.le_refl _))
theorem serve_list {a : Addr} {xs : List V} {ds : List D} (f : ∀ A1 H1 S1, Car A H A1 H1 → SRel K fa A1 H1 S1 → (Src.mk ds n).stays S1 = true → ∃ xs, SqL K H1 a xs ∧ RepL K fa A1 H1 xs ds) : Serves K fa A H (Itl K a) ⟨ds, n⟩ := by
  intro A1 H1 S1 c s st
  obtain ⟨xs, q, r⟩ := f A1 H1 S1 c s st
  refine ⟨fun i d hd => ?_, fun i hi => ⟨xs, q, by rw [r.length]; exact hi⟩⟩
  obtain ⟨v, hv, rv⟩ := r.get hd
  refine ⟨⟨xs, v, q, hv⟩, fun x H' y => ?_⟩
  obtain ⟨e, y⟩ := y
  have := y xs q
  rw [hv] at this
  cases this
  subst e
  exact ⟨Ext.refl, s, rv⟩
theorem serve_tup {a : Addr} {ds : List D} (f : ∀ A1 H1, Car A H A1 H1 → ∃ xs, SqT K H1 a xs ∧ RepL K fa A1 H1 xs ds) : Serves K fa A H (Itt K a) ⟨ds, none⟩ := by
  intro A1 H1 S1 c s st
  obtain ⟨xs, q, r⟩ := f A1 H1 c
  refine ⟨fun i d hd => ?_, fun i hi => ⟨xs, q, by rw [r.length]; exact hi⟩⟩
  obtain ⟨v, hv, rv⟩ := r.get hd
  refine ⟨⟨xs, v, q, hv⟩, fun x H' y => ?_⟩
  obtain ⟨e, y⟩ := y
  have := y xs q
  rw [hv] at this
  cases this
  subst e
  exact ⟨Ext.refl, s, rv⟩
theorem src_rep {S : Store} (s : SRel K fa A H S) {v : V} {d : D} {src : Src} (r : Rep K fa A H v d) (e : srcOf S d = some src) :
    ∃ a, v = .ref a ∧ (((∃ xs, SqL K H a xs) ∧ Serves K fa A H (Itl K a) src) ∨ ((∃ xs, SqT K H a xs) ∧ Serves K fa A H (Itt K a) src)) := by
  cases r with
  | tup h n m r =>
    cases e
    refine ⟨_, rfl, .inr ⟨⟨_, SqT.of h⟩, serve_tup fun A1 H1 c => ⟨_, SqT.of (c.keep _ _ n m h).1, c.repL r⟩⟩⟩
  | ktup k r =>
    cases e
    refine ⟨_, rfl, .inr ⟨⟨_, .inr k⟩, serve_tup fun A1 H1 c => ⟨_, .inr k, c.repL r⟩⟩⟩
  | lst h n m r =>
    cases e
    exact ⟨_, rfl, .inl ⟨⟨_, SqL.of h⟩, serve_list (xs := []) fun A1 H1 S1 c _ _ => ⟨_, SqL.of (c.keep _ _ n m h).1, c.repL r⟩⟩⟩
  | loc m =>
    rename_i a n
    simp only [srcOf] at e
    split at e
    · rename_i ds hn
      cases e
      obtain ⟨a', xs, e1, h, rr⟩ := listOf_rep (ds := ds) s (.loc m) (by simp only [listOf, hn])
      cases e1
      refine ⟨_, rfl, .inl ⟨⟨_, SqL.of h⟩, serve_list (xs := []) fun A1 H1 S1 c s1 st => ?_⟩⟩
      simp only [Src.stays] at st
      split at st
      · rename_i ds' hn'
        have := D.sameL_eq _ _ st
        subst this
        obtain ⟨a2, xs2, e2, h2, r2⟩ := listOf_rep (ds := ds') s1 (.loc (c.pl _ _ m)) (by simp only [listOf, hn'])
        cases e2
        exact ⟨xs2, SqL.of h2, r2⟩
      · cases st
    · cases e
  | non => cases e
  | bl => cases e
  | int => cases e
  | str => cases e
  | fn => cases e
  | scr _ _ _ => cases e
  | kscr _ => cases e
/-- the keys of a locked dict -/
theorem keys_serves {d : Addr} {o : Obj} {es : List (Key × V)} {kvs : List (Str × D)} (h : H d = some (.frz o (.dK es))) (r : Paired (RepS K fa A H) es kvs) : Serves K fa A H (Itk d o es) ⟨kvs.map fun p => .str p.1, none⟩ := by
  intro A1 H1 S1 c s st
  have hl : es.length = kvs.length := Paired.length r
  refine ⟨fun i d' hd => ?_, fun i hi => ⟨c.frz _ _ _ h, by have hi : (kvs.map fun p => D.str p.1).length ≤ i := hi; rw [List.length_map] at hi; omega⟩⟩
  have hd' : (kvs.map fun p => D.str p.1)[i]? = some d' := hd
  rw [List.getElem?_map] at hd'
  obtain ⟨q, hq, rfl⟩ := Option.map_eq_some_iff.mp hd'
  obtain ⟨v, hv, rv⟩ := dks_at r hq
  refine ⟨⟨c.frz _ _ _ h, by rw [hl]; exact (List.getElem?_eq_some_iff.mp hq).1⟩, fun x H' y => ?_⟩
  obtain ⟨rfl, k, v', hk, rfl⟩ := y
  rw [hv] at hk
  cases hk
  exact ⟨Ext.refl, s, .str _⟩
theorem rng_serves {lo : Int} {n : Nat} : Serves K fa A H (Itr lo n) ⟨rngD lo n, none⟩ := by
  intro A1 H1 S1 c s st
  refine ⟨fun i d hd => ?_, fun i hi => by have h : (rngD lo n).length ≤ i := hi; simp [rngD] at h; exact h⟩
  have hd' : (rngD lo n)[i]? = some d := hd
  unfold rngD at hd'
  rw [List.getElem?_map] at hd'
  have hi : i < n := by
    rcases Nat.lt_or_ge i n with h | h
    · exact h
    · rw [List.getElem?_eq_none (by simpa using h)] at hd'; cases hd'
  rw [List.getElem?_range hi] at hd'
  cases hd'
  refine ⟨hi, fun x H' y => ?_⟩
  obtain ⟨e, rfl⟩ := y
  subst e
  exact ⟨Ext.refl, s, .int _⟩
theorem new_pair {S : Store} (s : SRel K fa A H S) {T : Addr} {xs : List V} {ds : List D} (n : H T = none) (r : RepL K fa A H xs ds) : Ext A H A (upd H T (.tup xs)) ∧ SRel K fa A (upd H T (.tup xs)) S ∧ Rep K fa A (upd H T (.tup xs)) (.ref T) (.tup ds) :=
  ⟨Ext.laid s n, s.laid n, .tup upd_same (s.fresh n) (s.freshB n) (RepL.mono (Ext.laid s n) _ _ r)⟩
theorem enum_serves {a : Addr} {xs : List V} {ds : List D} (f : ∀ A1 H1, Car A H A1 H1 → SqL K H1 a xs ∧ RepL K fa A1 H1 xs ds) : Serves K fa A H (Ite K a) ⟨enumD ds, none⟩ := by
  intro A1 H1 S1 c s st
  obtain ⟨q, r⟩ := f A1 H1 c
  have hl : (enumD ds).length = ds.length := by simp [enumD]
  refine ⟨fun i d hd => ?_, fun i hi => ⟨xs, q, by rw [r.length, ← hl]; exact hi⟩⟩
  have hd' : (enumD ds)[i]? = some d := hd
  unfold enumD at hd'
  rw [List.getElem?_map] at hd'
  obtain ⟨⟨e, j⟩, h1, rfl⟩ := Option.map_eq_some_iff.mp hd'
  rw [List.getElem?_zipIdx] at h1
  obtain ⟨e', h2, h3⟩ := Option.map_eq_some_iff.mp h1
  cases h3
  obtain ⟨v, hv, rv⟩ := r.get h2
  refine ⟨⟨xs, v, q, hv⟩, fun x H' y => ?_⟩
  obtain ⟨T, x', rfl, n, rfl, y⟩ := y
  have := y xs q
  rw [hv] at this
  cases this
  refine new_pair s n (.cons ?_ (.cons rv .nil))
  rw [Nat.zero_add]
  exact .int _
theorem zip_serves {a b : Addr} {xs ys : List V} {ds es : List D} (f : ∀ A1 H1, Car A H A1 H1 → (SqL K H1 a xs ∧ RepL K fa A1 H1 xs ds) ∧ SqL K H1 b ys ∧ RepL K fa A1 H1 ys es) : Serves K fa A H (Itz K a b) ⟨zipD ds es, none⟩ := by
  intro A1 H1 S1 c s st
  obtain ⟨⟨q, r⟩, q2, r2⟩ := f A1 H1 c
  have hl : (zipD ds es).length = min ds.length es.length := by simp [zipD]
  refine ⟨fun i d hd => ?_, fun i hi => ⟨xs, ys, q, q2, ?_⟩⟩
  · have hd' : (zipD ds es)[i]? = some d := hd
    unfold zipD at hd'
    rw [List.getElem?_map] at hd'
    obtain ⟨⟨e, e2⟩, h1, rfl⟩ := Option.map_eq_some_iff.mp hd'
    rw [List.getElem?_zip_eq_some] at h1
    obtain ⟨v, hv, rv⟩ := r.get h1.1
    obtain ⟨v2, hv2, rv2⟩ := r2.get h1.2
    refine ⟨⟨xs, ys, v, v2, q, q2, hv, hv2⟩, fun x H' y => ?_⟩
    obtain ⟨T, x', y', rfl, n, rfl, y1, y2⟩ := y
    have e1 := y1 xs q
    have e2 := y2 ys q2
    rw [hv] at e1
    rw [hv2] at e2
    cases e1; cases e2
    exact new_pair s n (.cons rv (.cons rv2 .nil))
  · have hi' : (zipD ds es).length ≤ i := hi
    rw [hl] at hi'
    rw [r.length, r2.length]
    omega
theorem zipT_serves {a b : Addr} {xs ys : List V} {ds es : List D} (f : ∀ A1 H1, Car A H A1 H1 → (SqT K H1 a xs ∧ RepL K fa A1 H1 xs ds) ∧ SqT K H1 b ys ∧ RepL K fa A1 H1 ys es) : Serves K fa A H (RZ.ItzT K a b) ⟨zipD ds es, none⟩ := by
  intro A1 H1 S1 c s st
  obtain ⟨⟨q, r⟩, q2, r2⟩ := f A1 H1 c
  have hl : (zipD ds es).length = min ds.length es.length := by simp [zipD]
  refine ⟨fun i d hd => ?_, fun i hi => ⟨xs, ys, q, q2, ?_⟩⟩
  · have hd' : (zipD ds es)[i]? = some d := hd
    unfold zipD at hd'
    rw [List.getElem?_map] at hd'
    obtain ⟨⟨e, e2⟩, h1, rfl⟩ := Option.map_eq_some_iff.mp hd'
    rw [List.getElem?_zip_eq_some] at h1
    obtain ⟨v, hv, rv⟩ := r.get h1.1
    obtain ⟨v2, hv2, rv2⟩ := r2.get h1.2
    refine ⟨⟨xs, ys, v, v2, q, q2, hv, hv2⟩, fun x H' y => ?_⟩
    obtain ⟨T, x', y', rfl, n, rfl, y1, y2⟩ := y
    have e1 := y1 xs q
    have e2 := y2 ys q2
    rw [hv] at e1
    rw [hv2] at e2
    cases e1; cases e2
    exact new_pair s n (.cons rv (.cons rv2 .nil))
  · have hi' : (zipD ds es).length ≤ i := hi
    rw [hl] at hi'
    rw [r.length, r2.length]
    omega
abbrev tevI (K : PySem.W.Frag) (fa : Fa) (ca : Nat → Addr) (m : Env → Store → R Src) (W : WX) : TI := tevG K fa ca (Serves K fa) m W
theorem s_iter {a : E} {tg pa : Expr} (ha : PE X pa (tev X.K fa ca (evE C a) W)) : PI X tg pa (tevI X.K fa ca (evI C (.e a)) W) := by
  refine PI_of (pi_seq ha) fun σ H R q => ?_
  obtain ⟨A, G, S, g, s, p⟩ := q
  simp only [evI] at p
  refine (sub (rep1 := Rep X.K fa) g s p).mono fun x H1 ⟨A1, a, S1, e1, s1, r1, p1⟩ => ?_
  obtain ⟨src, hs, p1⟩ := opt_post p1
  obtain ⟨b, rfl, h⟩ := src_rep s1 r1 hs
  refine ⟨b, rfl, ?_⟩
  rcases h with ⟨h, v⟩ | ⟨h, v⟩
  · exact .inl ⟨h, p1 _ H1 A1 Ext.refl s1 v⟩
  · exact .inr ⟨h, p1 _ H1 A1 Ext.refl s1 v⟩
theorem rngSrc_some {a b : D} {src : Src} (h : rngSrc a b = some src) : ∃ i j, a = .int i ∧ b = .int j ∧ (-(2 ^ 62) ≤ i ∧ i < 2 ^ 62 ∧ -(2 ^ 62) ≤ j ∧ j < 2 ^ 62) ∧ src = ⟨rngD i (j - i).toNat, none⟩ := by
  unfold rngSrc at h
  split at h
  · split at h
    · rename_i hr
      cases h
      exact ⟨_, _, rfl, rfl, of_decide_eq_true hr, rfl⟩
    · cases h
  · cases h
theorem s_rng1 {a : E} {x : Str} {tg pa : Expr} {p p2 : Pos} (hg : Good T fa ca k X) (hx : gl X.env.scope x = true) (ex : x = ("range" : Str)) (hp : plain pa = true) (ha : PE X pa (tev X.K fa ca (evE C a) W)) : PI X tg (.Call (.Name x p2) [pa] [] p) (tevI X.K fa ca (evI C (.rng a)) W) := by
  subst ex
  refine PI_of (pi_range1 (gl_of hx).1 (hg.top.blt _ (by decide +kernel)) (pa_cons ha pa_nil (plain_star hp _ _)) (plain_star hp _ _)) fun σ H R q => ?_
  obtain ⟨A, G, S, g, s, p⟩ := q
  simp only [evI] at p
  refine (sub (rep1 := Rep X.K fa) g s p).mono fun x H1 ⟨A1, a, S1, e1, s1, r1, p1⟩ => ?_
  obtain ⟨src, hs, p1⟩ := opt_post p1
  obtain ⟨i, j, ei, rfl, hr, rfl⟩ := rngSrc_some hs
  cases ei
  cases r1
  refine ⟨j, rfl, hr.2.2.1, hr.2.2.2, p1 _ H1 A1 Ext.refl s1 ?_⟩
  rw [Int.sub_zero]
  exact rng_serves
theorem s_rng2 {a b : E} {x : Str} {tg pa pb : Expr} {p p2 : Pos} (hg : Good T fa ca k X) (hx : gl X.env.scope x = true) (ex : x = ("range" : Str)) (hp : plain pa = true) (hp2 : plain pb = true) (ha : PE X pa (tev X.K fa ca (evE C a) W)) (hb : PE X pb (tev X.K fa ca (evE C b) W)) :
    PI X tg (.Call (.Name x p2) [pa, pb] [] p) (tevI X.K fa ca (evI C (.rng2 a b)) W) := by
  subst ex
  refine PI_of (pi_range2 (gl_of hx).1 (hg.top.blt _ (by decide +kernel)) (pa_cons ha (pa_cons hb pa_nil (plain_star hp2 _ _)) (plain_star hp _ _)) (by rw [plain_star hp, plain_star hp2]; rfl) (plain_star hp2 _ _)) fun σ H R q => ?_
  obtain ⟨A, G, S, g, s, p⟩ := q
  simp only [evI] at p
  refine (sub (rep1 := Rep X.K fa) g s p).mono fun x H1 ⟨A1, a, S1, e1, s1, r1, p1⟩ => ?_
  refine (sub (rep1 := Rep X.K fa) (g.mono e1) s1 p1).mono fun y H2 ⟨A2, b, S2, e2, s2, r2, p2⟩ => ?_
  obtain ⟨src, hs, p2⟩ := opt_post p2
  obtain ⟨i, j, rfl, rfl, hr, rfl⟩ := rngSrc_some hs
  cases r1
  cases r2
  exact ⟨i, j, rfl, hr, p2 _ H2 A2 Ext.refl s2 rng_serves⟩
theorem lstF {v : V} {ds : List D} (r : Rep K fa A H v (.lst ds)) : ∃ a xs, v = .ref a ∧ SqL K H a xs ∧ ∀ A1 H1, Car A H A1 H1 → SqL K H1 a xs ∧ RepL K fa A1 H1 xs ds := by
  cases r with
  | lst h n m r => exact ⟨_, _, rfl, SqL.of h, fun A1 H1 c => ⟨SqL.of (c.keep _ _ n m h).1, c.repL r⟩⟩
theorem tupF {v : V} {ds : List D} (r : Rep K fa A H v (.tup ds)) : ∃ a xs, v = .ref a ∧ SqT K H a xs ∧ ∀ A1 H1, Car A H A1 H1 → SqT K H1 a xs ∧ RepL K fa A1 H1 xs ds := by
  cases r with
  | tup h n m r => exact ⟨_, _, rfl, SqT.of h, fun A1 H1 c => ⟨SqT.of (c.keep _ _ n m h).1, c.repL r⟩⟩
  | ktup k r => exact ⟨_, _, rfl, .inr k, fun A1 H1 c => ⟨.inr k, c.repL r⟩⟩
theorem Rep.car {v : V} {d : D} (r : Rep K fa A H v d) (c : Car A H A1 H1) : Rep K fa A1 H1 v d := c.rep r
theorem s_enum {a : E} {x : Str} {pa : Expr} {elts : List Expr} {kk : Nat} {p p2 tp : Pos} (hg : Good T fa ca k X) (hx : gl X.env.scope x = true) (ex : x = ("enumerate" : Str)) (hp : plain pa = true) (ha : PE X pa (tev X.K fa ca (evE C a) W)) :
    PI X (.Tuple elts kk tp) (.Call (.Name x p2) [pa] [] p) (tevI X.K fa ca (evI C (.enum a)) W) := by
  subst ex
  refine PI_of (pi_enum (gl_of hx).1 (hg.top.blt _ (by decide +kernel)) (pa_cons ha pa_nil (plain_star hp _ _)) (plain_star hp _ _)) fun σ H R q => ?_
  obtain ⟨A, G, S, g, s, p⟩ := q
  simp only [evI] at p
  refine (sub (rep1 := Rep X.K fa) g s p).mono fun x H1 ⟨A1, d, S1, e1, s1, r1, p1⟩ => ?_
  obtain ⟨src, hs, p1⟩ := opt_post p1
  cases d <;> simp only [enumSrc] at hs <;> first | (cases hs; done) | skip
  cases hs
  obtain ⟨b, xs, rfl, hq, f⟩ := lstF r1
  exact ⟨b, xs, rfl, hq, p1 _ H1 A1 Ext.refl s1 (enum_serves f)⟩
theorem s_zip {a b : E} {x : Str} {pa pb : Expr} {elts : List Expr} {kk : Nat} {p p2 tp : Pos} (hg : Good T fa ca k X) (hx : gl X.env.scope x = true) (ex : x = ("zip" : Str)) (hp : plain pa = true) (hp2 : plain pb = true) (ha : PE X pa (tev X.K fa ca (evE C a) W)) (hb : PE X pb (tev X.K fa ca (evE C b) W)) :
    PI X (.Tuple elts kk tp) (.Call (.Name x p2) [pa, pb] [] p) (tevI X.K fa ca (evI C (.zip a b)) W) := by
  subst ex
  refine PI_of (RZ.pi_zipA (gl_of hx).1 (hg.top.blt _ (by decide +kernel)) (pa_cons ha (pa_cons hb pa_nil (plain_star hp2 _ _)) (plain_star hp _ _)) (plain_star hp _ _) (star_none fun q hq => by rw [List.mem_singleton.mp hq]; exact hp2)) fun σ H R q => ?_
  obtain ⟨A, G, S, g, s, p⟩ := q
  simp only [evI] at p
  refine (sub (rep1 := Rep X.K fa) g s p).mono fun x H1 ⟨A1, d1, S1, e1, s1, r1, p1⟩ => ?_
  refine (sub (rep1 := Rep X.K fa) (g.mono e1) s1 p1).mono fun y H2 ⟨A2, d2, S2, e2, s2, r2, p2⟩ => ?_
  obtain ⟨src, hs, p2⟩ := opt_post p2
  have r1' := Rep.mono e2 _ _ r1
  cases d1 <;> cases d2 <;> simp only [zipSrc] at hs <;> first | (cases hs; done) | skip
  · cases hs
    obtain ⟨u, xs, rfl, hq, f⟩ := tupF r1'
    obtain ⟨v, ys, rfl, hq2, f2⟩ := tupF r2
    exact ⟨u, v, xs, ys, rfl, .inr ⟨hq, hq2, p2 _ H2 A2 Ext.refl s2 (zipT_serves fun A1 H1 c => ⟨f A1 H1 c, f2 A1 H1 c⟩)⟩⟩
  · cases hs
    obtain ⟨u, xs, rfl, hq, f⟩ := lstF r1'
    obtain ⟨v, ys, rfl, hq2, f2⟩ := lstF r2
    exact ⟨u, v, xs, ys, rfl, .inl ⟨hq, hq2, p2 _ H2 A2 Ext.refl s2 (zip_serves fun A1 H1 c => ⟨f A1 H1 c, f2 A1 H1 c⟩)⟩⟩

/-! ### targets -/
def gNs : List Nat → TGs
  | [] => gNil
  | i :: is => gCons (gName i) (gNs is)
def gT (K : PySem.W.Frag) : Tg → TG
  | .name i => gName i
  | .tup is => gTup K is.length (gNs is)
theorem pgs_names {ok : Str → Bool} (hN : X.N.Nodup) (hok : ∀ x, ok x = true → Loc X.env.scope x ∧ (X.fn x = true ∨ X.env.scope.names.lookup x = some .local)) : ∀ {is : List Nat} {es : List Expr}, mNames X.N ok is es = true → PGs X es (gNs is) ∧ (assignEach es X.env).length = is.length ∧ (assignEach es X.env).findIdx? (·.1) = none
  | [], [], _ => ⟨pgs_nil, rfl, rfl⟩
  | i :: is, .Name x p :: es, h => by
    simp only [mNames, Bool.and_eq_true, decide_eq_true_eq] at h
    obtain ⟨h1, h2, h3⟩ := pgs_names hN hok h.2.2
    obtain ⟨l, f⟩ := hok x h.2.1
    refine ⟨pgs_cons (pg_name hN h.1 l f) h1 rfl, ?_, ?_⟩
    · show (assignEach es X.env).length + 1 = _
      rw [h2]; rfl
    · show List.findIdx? (·.1) ((false, assign (.Name x p) X.env) :: assignEach es X.env) = none
      rw [List.findIdx?_cons]
      simp [h3]
  | [], _ :: _, h => by simp only [mNames] at h; cases h
  | _ :: _, [], h => by simp only [mNames] at h; cases h
theorem s_tg {ok : Str → Bool} {tg : Tg} {t : Expr} (hc : X.calm = true) (hN : X.N.Nodup) (hok : ∀ x, ok x = true → Loc X.env.scope x ∧ (X.fn x = true ∨ X.env.scope.names.lookup x = some .local)) (h : mTg X.N ok tg t = true) : PG X t (gT X.K tg) := by
  cases tg with
  | name i =>
    cases t <;> simp only [mTg] at h <;> first | (cases h; done) | skip
    simp only [Bool.and_eq_true, decide_eq_true_eq] at h
    obtain ⟨l, f⟩ := hok _ h.2
    exact pg_name hN h.1 l f
  | tup is =>
    cases t <;> simp only [mTg] at h <;> first | (cases h; done) | skip
    obtain ⟨h1, h2, h3⟩ := pgs_names hN hok h
    exact pg_tup hc h1 h2 h3
theorem wipe_get {i : Nat} : ∀ {vs : List Nat} {σ : L2.St}, (wipe σ vs)[i]? = if i ∈ vs then (if i < σ.length then some none else none) else σ[i]?
  | [], σ => by simp [wipe]
  | v :: vs, σ => by
    unfold wipe
    rw [List.getElem?_set, wipe_length, wipe_get (vs := vs)]
    by_cases hv : v = i
    · subst hv; simp
    · by_cases h2 : i ∈ vs
      · simp [hv, h2]
      · simp [hv, h2, Ne.symm hv]
theorem wipe_set {σ : L2.St} {i : Nat} {x : Option V} {vs : List Nat} (h : i ∈ vs) : wipe (σ.set i x) vs = wipe σ vs := by
  apply List.ext_getElem?
  intro j
  rw [wipe_get, wipe_get]
  split
  · simp
  · rename_i hj
    rw [List.getElem?_set_ne (by rintro rfl; exact hj h)]
theorem GRel.set {i : Nat} {v : V} {d : D} (g : GRel K fa A H σ G) (r : Rep K fa A H v d) : GRel K fa A H (σ.set i (some v)) (setV G i d) := by
  refine ⟨by simp [setV, g.1], fun j e h => ?_⟩
  unfold setV at h
  by_cases hj : i = j
  · subst hj
    by_cases hi : i < G.length
    · rw [List.getElem?_set_self hi] at h
      cases h
      exact ⟨v, by rw [List.getElem?_set_self (by rw [← g.1]; exact hi)], r⟩
    · rw [List.getElem?_eq_none (by simpa using hi)] at h; cases h
  · rw [List.getElem?_set_ne hj] at h
    rw [List.getElem?_set_ne hj]
    exact g.2 j e h
theorem gNs_run {Q : L2.St → Hp → Prop} : ∀ {is : List Nat} {xs : List V} {ds : List D} {σ : L2.St} {G G2 : Env}, RepL K fa A H xs ds → setVs G is ds = some G2 → GRel K fa A H σ G → (∀ σ2, GRel K fa A H σ2 G2 → (∀ vs : List Nat, (∀ i ∈ is, i ∈ vs) → wipe σ2 vs = wipe σ vs) → Q σ2 H) → gNs is xs σ H Q
  | [], xs, [], σ, G, G2, r, e, g, q => by
    cases r
    simp only [setVs, Option.some.injEq] at e
    subst e
    exact ⟨rfl, q σ g fun _ _ => rfl⟩
  | i :: is, xs, d :: ds, σ, G, G2, r, e, g, q => by
    cases r with
    | cons r1 r2 =>
      simp only [setVs] at e
      refine ⟨_, _, rfl, gNs_run r2 e (g.set r1) fun σ2 g2 w2 => q σ2 g2 fun vs hv => ?_⟩
      rw [w2 vs fun j hj => hv j (List.mem_cons_of_mem _ hj), wipe_set (hv i List.mem_cons_self)]
  | [], _, _ :: _, _, _, _, _, e, _, _ => by simp only [setVs] at e; cases e
  | _ :: _, _, [], _, _, _, _, e, _, _ => by simp only [setVs] at e; cases e
def Tg.ix : Tg → List Nat
  | .name i => [i]
  | .tup is => is
theorem setVs_len : ∀ {is : List Nat} {ds : List D} {G G2 : Env}, setVs G is ds = some G2 → ds.length = is.length
  | [], [], _, _, _ => rfl
  | _ :: is, _ :: ds, _, _, e => by simp only [setVs] at e; simp [setVs_len e]
  | [], _ :: _, _, _, e => by simp only [setVs] at e; cases e
  | _ :: _, [], _, _, e => by simp only [setVs] at e; cases e
theorem gT_run {Q : L2.St → Hp → Prop} {tg : Tg} {v : V} {d : D} {G2 : Env} (r : Rep K fa A H v d) (e : setTg G tg d = some G2) (g : GRel K fa A H σ G) (q : ∀ σ2, GRel K fa A H σ2 G2 → (∀ vs : List Nat, (∀ i ∈ tg.ix, i ∈ vs) → wipe σ2 vs = wipe σ vs) → Q σ2 H) : gT K tg v σ H Q := by
  cases tg with
  | name i =>
    simp only [setTg, Option.some.injEq] at e
    subst e
    exact q _ (g.set r) fun vs hv => wipe_set (hv i (by simp [Tg.ix]))
  | tup is =>
    cases d <;> simp only [setTg] at e <;> first | (cases e; done) | skip
    obtain ⟨a, xs, rfl, hs, rl⟩ := tup_sq r
    exact ⟨a, xs, rfl, hs, by rw [rl.length, setVs_len e], gNs_run rl e g q⟩
end
end NW
end
section
/- Comprehensions; the whole of expressions. -/
namespace NW
open PySem PySem.Spec L2
section
variable {T : Tb} {fa : Fa} {ca : Nat → Addr} {k : Nat} {X : Cx} {W : WX} {C : Calls}
variable {K : PySem.W.Frag} {A A1 A2 A' : Pl} {H H1 H2 H' : Hp} {σ : L2.St} {G : Env}
theorem wipeE_get {i : Nat} : ∀ {vs : List Nat} {G : Env}, (wipeE G vs)[i]? = if i ∈ vs then (if i < G.length then some none else none) else G[i]?
  | [], G => by simp [wipeE]
  | v :: vs, G => by
    have hl : ∀ (vs : List Nat) (G : Env), (wipeE G vs).length = G.length := fun vs => by
      induction vs with
      | nil => intro G; rfl
      | cons v vs ih => intro G; unfold wipeE; rw [List.length_set, ih]
    unfold wipeE
    rw [List.getElem?_set, hl, wipeE_get (vs := vs)]
    by_cases hv : v = i
    · subst hv; simp
    · by_cases h2 : i ∈ vs
      · simp [hv, h2]
      · simp [hv, h2, Ne.symm hv]
theorem wipeE_length : ∀ (vs : List Nat) (G : Env), (wipeE G vs).length = G.length
  | [], _ => rfl
  | v :: vs, G => by unfold wipeE; rw [List.length_set, wipeE_length vs]
theorem GRel.wipe (g : GRel K fa A H σ G) (vs : List Nat) : GRel K fa A H (L2.wipe σ vs) (wipeE G vs) := by
  refine ⟨by rw [wipeE_length, wipe_length, g.1], fun i d h => ?_⟩
  rw [wipeE_get] at h
  split at h
  · split at h <;> cases h
  · rename_i hi
    obtain ⟨v, h1, h2⟩ := g.2 i d h
    exact ⟨v, by rw [wipe_get, if_neg hi]; exact h1, h2⟩

/-- while a comprehension makes the list at D -/
structure Mid (K : PySem.W.Frag) (fa : Fa) (A1 : Pl) (H1 : Hp) (D : Addr) (A : Pl) (H : Hp) (S : Store) (acc : List V) (ds : List NW.D) : Prop where
  ext : Ext A1 H1 (A.bare A1.fb) H
  fb : A.fb = D :: A1.fb
  s : SRel K fa A H S
  at_ : H D = some (.lst acc)
  rep : RepL K fa A H acc ds
section
variable {D : Addr} {S S' : Store} {acc : List V} {ds : List NW.D}
theorem Mid.start {S1 : Store} (s : SRel K fa A1 H1 S1) (n : H1 D = none) : Mid K fa A1 H1 D (A1.guard D) (upd H1 D (.lst [])) S1 [] [] :=
  ⟨Ext.laid s n, rfl, s.guard n, upd_same, .nil⟩
theorem Mid.step (m : Mid K fa A1 H1 D A H S acc ds) (e : Ext A H A' H') (s : SRel K fa A' H' S') : Mid K fa A1 H1 D A' H' S' acc ds where
  ext := by
    refine ⟨?_, rfl, fun b h1 h2 => ?_, fun a o h1 h2 => ?_, fun a o u h => ?_⟩
    · obtain ⟨B, h⟩ := m.ext.pre
      obtain ⟨B2, h2⟩ := e.pre
      have h' : A.pl = A1.pl ++ B := h
      exact ⟨B ++ B2, by show A'.pl = _; rw [h2, h', List.append_assoc]⟩
    · by_cases hb : b ∈ A.pl
      · exact m.ext.new b hb h2
      · have q := e.new b h1 hb
        cases q2 : H1 b with
        | none => rfl
        | some o => rw [m.ext.keep b o h2 q2] at q; cases q
    · exact e.keep a o (m.ext.notin h2 h1) (m.ext.keep a o h1 h2)
    · exact e.frz a _ _ (m.ext.frz a _ _ ‹_›)
  fb := e.fb.trans m.fb
  s := s
  at_ := e.keep D _ (m.s.fbt D (by rw [m.fb]; exact List.mem_cons_self)).2 m.at_
  rep := RepL.mono e _ _ m.rep
theorem Mid.car (m : Mid K fa A1 H1 D A H S acc ds) (n : H1 D = none) : Car A1 H1 A H :=
  ⟨fun n a h => m.ext.at h, fun a o h1 h2 h => ⟨m.ext.keep a o h1 h, m.ext.notin h h1, by rw [m.fb]; exact fun z => (List.mem_cons.mp z).elim (ne_of_none h n) h2⟩, m.ext.frz⟩
theorem Mid.push (m : Mid K fa A1 H1 D A H S acc ds) (n : H1 D = none) {v : V} {d : NW.D} (r : Rep K fa A H v d) : Mid K fa A1 H1 D A (upd H D (.lst (acc ++ [v]))) S (acc ++ [v]) (ds ++ [d]) := by
  have hD : D ∈ A.fb := by rw [m.fb]; exact List.mem_cons_self
  refine ⟨⟨m.ext.pre, m.ext.fb, m.ext.new, fun a o h1 h2 => ?_, fun a o u h => ?_⟩, m.fb, m.s.off hD, upd_same, ?_⟩
  · rw [upd_ne (ne_of_none h2 n)]
    exact m.ext.keep a o h1 h2
  · rw [upd_ne (ne_of_none h n)]
    exact m.ext.frz a o u h
  · exact RepL.carry (fun _ _ m => m) (off_rep hD) _ _ (m.rep.append (.cons r .nil))
end

def tcond (K : PySem.W.Frag) (fa : Fa) (ca : Nat → Addr) : Option ME → TT
  | none => tYes
  | some c => tevT K fa ca c W0
/-- the run of a comprehension's turns -/
theorem comp_run {own : List (Str × Nat)} {tg : Tg} {c : Option ME} {elt : ME} {src : Src} {D : Addr} {J : L2.It} {S1 : Store} {Q : VK} {Wx : Value → Option Addr → Hp → Prop}
    (g : GRel K fa A1 H1 σ G) (s1 : SRel K fa A1 H1 S1) (sv : Serves K fa A1 H1 J src) (hix : ∀ i ∈ tg.ix, i ∈ own.map (·.2)) (hD : H1 D = none)
    (p : RPost K fa ca (Rep K fa) (compGo tg c elt src (wipeE G (own.map (·.2))) src.items [] S1) A1 H1 Q Wx) :
    ∃ W : Nat → Nat → Hp → Prop, (∃ m, W 0 m (upd H1 D (.lst []))) ∧ ∀ i m H, W i m H →
      (J.stop i H ∧ Q (.ref D) H) ∨ (J.go i H ∧ ∃ Nx : Hp → Prop, (∀ H', Nx H' → ∃ m', m' < m ∧ W (i + 1) m' H') ∧ ∀ x H', J.yld i H x H' → gT K tg x (wipe σ (own.map (·.2))) H' fun σ2 H2 => wipe σ2 (own.map (·.2)) = wipe σ (own.map (·.2)) ∧ tcond K fa ca c σ2 H2 fun b H3 =>
        if b = true then tev K fa ca elt W0 σ2 H3 fun y H4 => ∃ acc, H4 D = some (.lst acc) ∧ acc.length < sizeLine ∧ Nx (upd H4 D (.lst (acc ++ [y]))) else Nx H3) := by
  generalize hr0 : compGo tg c elt src (wipeE G (own.map (·.2))) src.items [] S1 = r0 at p
  have nb : r0 ≠ .bad := by rintro rfl; exact p
  refine ⟨fun i m H => i ≤ src.items.length ∧ m = src.items.length - i ∧ ∃ A S acc ds, Mid K fa A1 H1 D A H S acc ds ∧ compGo tg c elt src (wipeE G (own.map (·.2))) (src.items.drop i) ds S = r0,
    ⟨_, Nat.zero_le _, rfl, _, S1, [], [], Mid.start s1 hD, hr0⟩, ?_⟩
  rintro i m H ⟨hi, rfl, A, S, acc, ds, md, hr⟩
  by_cases hlt : i < src.items.length
  · rw [List.drop_eq_getElem_cons hlt] at hr
    simp only [compGo] at hr
    split at hr
    · rename_i hst
      simp only [Bool.and_eq_true, decide_eq_true_eq] at hst
      obtain ⟨sv1, _⟩ := sv A H S (md.car hD) md.s hst.1
      obtain ⟨go, yl⟩ := sv1 i _ (List.getElem?_eq_getElem hlt)
      refine .inr ⟨go, fun H' => ∃ A S acc ds, Mid K fa A1 H1 D A H' S acc ds ∧ compGo tg c elt src (wipeE G (own.map (·.2))) (src.items.drop (i + 1)) ds S = r0, fun H' h => ⟨_, by omega, hlt, rfl, h⟩, fun x H' y => ?_⟩
      obtain ⟨ey, sy, rx⟩ := yl x H' y
      replace md := md.step ey sy
      split at hr
      · exact absurd hr.symm nb
      · rename_i G2 hG
        refine gT_run rx hG (((md.car hD).grel g).wipe (own.map (·.2))) fun σ2 g2 hw => ⟨?_, ?_⟩
        · rw [hw _ hix]
          apply List.ext_getElem?
          intro j
          rw [wipe_get, wipe_get, wipe_length]
          by_cases hj : j ∈ own.map (·.2) <;> simp [hj]
        · -- the element
          have elem : ∀ {A3 : Pl} {H3 : Hp} {S3 : Store}, Mid K fa A1 H1 D A3 H3 S3 acc ds → GRel K fa A3 H3 σ2 G2 → noEx (elt G2 S3) (fun d S2 => compGo tg c elt src (wipeE G (own.map (·.2))) (src.items.drop (i + 1)) (ds ++ [d]) S2) = r0 →
              tev K fa ca elt W0 σ2 H3 fun y H4 => ∃ acc, H4 D = some (.lst acc) ∧ acc.length < sizeLine ∧ ∃ A S acc' ds, Mid K fa A1 H1 D A (upd H4 D (.lst (acc ++ [y]))) S acc' ds ∧ compGo tg c elt src (wipeE G (own.map (·.2))) (src.items.drop (i + 1)) ds S = r0 := by
            intro A3 H3 S3 m3 g3 h3
            refine ⟨A3, G2, S3, g3, m3.s, ?_⟩
            cases he : elt G2 S3 with
            | bad => rw [he] at h3; exact absurd h3.symm nb
            | exc x S4 => rw [he] at h3; exact absurd h3.symm nb
            | ok d S4 =>
              rw [he] at h3
              intro y H4 A4 e4 s4 r4
              have m4 := m3.step e4 s4
              exact ⟨acc, m4.at_, by rw [m4.rep.length, ← line_eq]; exact hst.2, A4, S4, _, _, m4.push hD r4, h3⟩
          unfold compTurn at hr
          cases c with
          | none =>
            simp only [tcond, tYes, if_true]
            exact elem md g2 hr
          | some c' =>
            refine ⟨A, G2, S, g2, md.s, ?_⟩
            dsimp only at hr ⊢
            cases hc : c' G2 S with
            | bad => rw [hc] at hr; exact absurd hr.symm nb
            | exc x S4 => rw [hc] at hr; exact absurd hr.symm nb
            | ok t S4 =>
              rw [hc] at hr
              cases t with
              | bl t =>
                intro b H4 A4 e4 s4 hb
                subst hb
                have m4 := md.step e4 s4
                cases b with
                | true =>
                  rw [if_pos rfl]
                  exact elem m4 (g2.mono e4) hr
                | false =>
                  rw [if_neg Bool.false_ne_true]
                  exact ⟨A4, S4, acc, ds, m4, hr⟩
              | non => exact absurd hr.symm nb
              | int _ => exact absurd hr.symm nb
              | str _ => exact absurd hr.symm nb
              | tup _ => exact absurd hr.symm nb
              | lst _ => exact absurd hr.symm nb
              | loc _ => exact absurd hr.symm nb
              | fn _ => exact absurd hr.symm nb
              | scr _ => exact absurd hr.symm nb
    · exact absurd hr.symm nb
  · have e : i = src.items.length := by omega
    subst e
    rw [List.drop_eq_nil_of_le (Nat.le_refl _)] at hr
    simp only [compGo] at hr
    split at hr
    · rename_i hst
      obtain ⟨_, st⟩ := sv A H S (md.car hD) md.s hst
      refine .inl ⟨st _ (Nat.le_refl _), ?_⟩
      subst hr
      refine p (.ref D) H (A.bare A1.fb) md.ext (md.s.bare fun b hb => by rw [md.fb]; exact List.mem_cons_of_mem _ hb) ?_
      have hDp : D ∉ A.pl := (md.s.fbt D (by rw [md.fb]; exact List.mem_cons_self)).2
      exact .lst md.at_ hDp (s1.freshB hD) (RepL.bare (fun b hb => by rw [md.fb]; exact List.mem_cons_of_mem _ hb) _ _ md.rep)
    · exact absurd hr.symm nb
theorem own_ix {own : List (Str × Nat)} {N : List Str} {scope : Scope} (hN : N.Nodup) {sc : Scope} (ok : BlkOk N sc scope own) : ∀ {is : List Nat} {es : List Expr}, mNames N (loc scope) is es = true → ∀ i ∈ is, i ∈ own.map (·.2)
  | [], _, _ => fun i h => by cases h
  | i :: is, .Name x p :: es, h => fun j hj => by
    simp only [mNames, Bool.and_eq_true, decide_eq_true_eq] at h
    rcases List.mem_cons.mp hj with rfl | hj
    · have hl := h.2.1
      unfold loc at hl
      simp only [Bool.or_eq_true, decide_eq_true_eq] at hl
      have hm : ∃ kd, (x, kd) ∈ scope.names ∧ (kd = .local ∨ kd = .cell) := by
        rcases hl with q | q
        · exact ⟨_, PySem.mem_of_lookup q, .inl rfl⟩
        · exact ⟨_, PySem.mem_of_lookup q, .inr rfl⟩
      obtain ⟨kd, hm, hk⟩ := hm
      rcases ok.own _ hm hk with q | q
      · obtain ⟨p, hp, e⟩ := List.mem_map.mp q
        have e1 := ok.ix p hp
        have e2 : p.2 = j := nodup_ix hN (by rw [e1, e]) h.1
        exact List.mem_map.mpr ⟨p, hp, e2⟩
      · exact absurd (List.mem_of_getElem? h.1) q
    · exact own_ix hN ok h.2.2 j hj
  | i :: is, [], h => by simp only [mNames] at h; cases h
  | i :: is, .BoolOp .. :: es, h => by simp only [mNames] at h; cases h
  | i :: is, .NamedExpr .. :: es, h => by simp only [mNames] at h; cases h
  | i :: is, .BinOp .. :: es, h => by simp only [mNames] at h; cases h
  | i :: is, .UnaryOp .. :: es, h => by simp only [mNames] at h; cases h
  | i :: is, .Lambda .. :: es, h => by simp only [mNames] at h; cases h
  | i :: is, .IfExp .. :: es, h => by simp only [mNames] at h; cases h
  | i :: is, .Dict .. :: es, h => by simp only [mNames] at h; cases h
  | i :: is, .Set .. :: es, h => by simp only [mNames] at h; cases h
  | i :: is, .ListComp .. :: es, h => by simp only [mNames] at h; cases h
  | i :: is, .SetComp .. :: es, h => by simp only [mNames] at h; cases h
  | i :: is, .DictComp .. :: es, h => by simp only [mNames] at h; cases h
  | i :: is, .GeneratorExp .. :: es, h => by simp only [mNames] at h; cases h
  | i :: is, .Await .. :: es, h => by simp only [mNames] at h; cases h
  | i :: is, .Yield .. :: es, h => by simp only [mNames] at h; cases h
  | i :: is, .YieldFrom .. :: es, h => by simp only [mNames] at h; cases h
  | i :: is, .Compare .. :: es, h => by simp only [mNames] at h; cases h
  | i :: is, .Call .. :: es, h => by simp only [mNames] at h; cases h
  | i :: is, .FormattedValue .. :: es, h => by simp only [mNames] at h; cases h
  | i :: is, .JoinedStr .. :: es, h => by simp only [mNames] at h; cases h
  | i :: is, .Constant .. :: es, h => by simp only [mNames] at h; cases h
  | i :: is, .Attribute .. :: es, h => by simp only [mNames] at h; cases h
  | i :: is, .Subscript .. :: es, h => by simp only [mNames] at h; cases h
  | i :: is, .Starred .. :: es, h => by simp only [mNames] at h; cases h
  | i :: is, .List .. :: es, h => by simp only [mNames] at h; cases h
  | i :: is, .Tuple .. :: es, h => by simp only [mNames] at h; cases h
  | i :: is, .Slice .. :: es, h => by simp only [mNames] at h; cases h
theorem tg_ix {own : List (Str × Nat)} {N : List Str} {scope sc : Scope} (hN : N.Nodup) (ok : BlkOk N sc scope own) {tg : Tg} {t : Expr} (h : mTg N (loc scope) tg t = true) : ∀ i ∈ tg.ix, i ∈ own.map (·.2) := by
  cases tg with
  | name i =>
    cases t <;> simp only [mTg] at h <;> first | (cases h; done) | skip
    rename_i x p
    refine own_ix hN ok (is := [i]) (es := [.Name x p]) ?_
    simp only [mNames, Bool.and_true]
    exact h
  | tup is =>
    cases t <;> simp only [mTg] at h <;> first | (cases h; done) | skip
    exact own_ix hN ok h
/-- a comprehension's parts -/
structure CompOk (T : Tb) (fa : Fa) (ca : Nat → Addr) (X : Cx) (W : WX) (C : Calls) (elt : E) (own : List Nat) (tg : Tg) (it : It) (c : Oe) (q t i : Expr) (ifs : List Expr) (scope : Scope) : Prop where
  ok : BlkOk X.N X.env.scope scope (nmd X.N own)
  htg : mTg X.N (loc scope) tg t = true
  hit : PI X t i (tevI X.K fa ca (evI C it) W)
  hpl : plain i = true
  pg : ∀ (s : Shared) (H : Hp) (Cc : Addr) (cl : List (Str × Addr)) (fp : List Addr), PG (X.blk s H scope (compEnvC scope cl Cc X.env) fp) t (gT X.K tg)
  pt : ∀ (s : Shared) (H : Hp) (Cc : Addr) (cl : List (Str × Addr)) (fp : List Addr), PTs (X.blk s H scope (compEnvC scope cl Cc X.env) fp) ifs (tcond X.K fa ca (evC C c))
  pe : ∀ (s : Shared) (H : Hp) (Cc : Addr) (cl : List (Str × Addr)) (fp : List Addr), PE (X.blk s H scope (compEnvC scope cl Cc X.env) fp) q (tev X.K fa ca (evE C elt) W0)
theorem CompOk.reads {elt : E} {own : List Nat} {tg : Tg} {it : It} {c : Oe} {q t i : Expr} {ifs : List Expr} {scope : Scope} (hg : Good T fa ca k X) (o : CompOk T fa ca X W C elt own tg it c q t i ifs scope) {σ : L2.St} {H : Hp} {Q : VK}
    (h : tev X.K fa ca (evE C (.comp elt own tg it c)) W σ H Q) : tLc (tevI X.K fa ca (evI C it) W) (gT X.K tg) (tcond X.K fa ca (evC C c)) (tev X.K fa ca (evE C elt) W0) ((nmd X.N own).map (·.2)) σ H Q := by
  obtain ⟨A, G, S, g, s, p⟩ := h
  simp only [evE] at p
  refine (sub (rep1 := Serves X.K fa) g s p).mono fun J H1 ⟨A1, src, S1, e1, s1, r1, p1⟩ => ?_
  intro D hD
  exact comp_run (own := nmd X.N own) (g.mono e1) s1 r1 (tg_ix hg.nd o.ok o.htg) hD (by rw [nmd_snd]; exact p1)
theorem s_comp {elt : E} {own : List Nat} {tg : Tg} {it : It} {c : Oe} {q t i : Expr} {ifs : List Expr} {scope : Scope} {p : Pos} (hg : Good T fa ca k X) (o : CompOk T fa ca X W C elt own tg it c q t i ifs scope) :
    PE X (.ListComp q [⟨t, i, ifs, 0⟩] scope p) (tev X.K fa ca (evE C (.comp elt own tg it c)) W) :=
  PE_of (pe_lc hg.calm hg.nd o.hit o.ok o.pg o.pt o.pe (plain_fold o.hpl _)) fun σ H Q h => o.reads hg h
/-! ### a dict that is written where it is asked -/
/-- while something new stands at D -/
structure Gd (A1 : Pl) (H1 : Hp) (D : Addr) (A : Pl) (H : Hp) : Prop where
  ext : Ext A1 H1 (A.bare A1.fb) H
  fb : A.fb = D :: A1.fb
section
variable {D : Addr} {S S' : Store} {o : HO}
theorem Gd.start {S1 : Store} (s : SRel K fa A1 H1 S1) (n : H1 D = none) : Gd A1 H1 D (A1.guard D) (upd H1 D o) := ⟨Ext.laid s n, rfl⟩
theorem Gd.step (m : Gd A1 H1 D A H) (e : Ext A H A' H') : Gd A1 H1 D A' H' where
  ext := by
    refine ⟨?_, rfl, fun b h1 h2 => ?_, fun a o h1 h2 => ?_, fun a o u h => ?_⟩
    · obtain ⟨B, h⟩ := m.ext.pre
      obtain ⟨B2, h2⟩ := e.pre
      have h' : A.pl = A1.pl ++ B := h
      exact ⟨B ++ B2, by show A'.pl = _; rw [h2, h', List.append_assoc]⟩
    · by_cases hb : b ∈ A.pl
      · exact m.ext.new b hb h2
      · have q := e.new b h1 hb
        cases q2 : H1 b with
        | none => rfl
        | some o => rw [m.ext.keep b o h2 q2] at q; cases q
    · exact e.keep a o (m.ext.notin h2 h1) (m.ext.keep a o h1 h2)
    · exact e.frz a _ _ (m.ext.frz a _ _ ‹_›)
  fb := e.fb.trans m.fb
theorem Gd.mem (m : Gd A1 H1 D A H) : D ∈ A.fb := by rw [m.fb]; exact List.mem_cons_self
theorem Gd.off (m : Gd A1 H1 D A H) (n : H1 D = none) : Gd A1 H1 D A (upd H D o) :=
  ⟨⟨m.ext.pre, m.ext.fb, m.ext.new, fun a o h1 h2 => by rw [upd_ne (ne_of_none h2 n)]; exact m.ext.keep a o h1 h2, fun a o u h => by rw [upd_ne (ne_of_none h n)]; exact m.ext.frz a o u h⟩, m.fb⟩
theorem Gd.sub (m : Gd A1 H1 D A H) : ∀ b ∈ A1.fb, b ∈ A.fb := fun b hb => by rw [m.fb]; exact List.mem_cons_of_mem _ hb
theorem Gd.at_ (m : Gd A1 H1 D A H) (s : SRel K fa A H S) (h : H D = some o) (e : Ext A H A' H') : H' D = some o := e.keep D _ (s.fbt D m.mem).2 h
theorem RepX.bare {l : List Addr} (hl : ∀ b ∈ l, b ∈ A.fb) {c : Value} {d : Option Addr} {x : Xc} (r : RepX K fa ca A H c d x) : RepX K fa ca (A.bare l) H c d x := by
  obtain ⟨r1, r2⟩ := r
  refine ⟨r1, ?_⟩
  cases d with
  | none => exact r2
  | some a =>
    obtain ⟨fs, h1, h2, h3, h4, h5⟩ := r2
    exact ⟨fs, h1, h2, fun z => h3 (hl a z), h4, RepL.bare hl _ _ h5⟩
end
def trsOf (K : PySem.W.Frag) (fa : Fa) (ca : Nat → Addr) (C : Calls) (W : WX) : List Str → Es → List (TE × TE)
  | _, .nil => []
  | ks, .cons e es => (tC (.str (ks.headD "")), tev K fa ca (evE C e) W) :: trsOf K fa ca C W ks.tail es
def pz : List Str → List V → List (V × V)
  | _, [] => []
  | ks, v :: vs => (.str (ks.headD ""), v) :: pz ks.tail vs
theorem pairs_run : ∀ {es : Es} {ks : List Str} {σ : L2.St} {H : Hp} {Q : List (V × V) → Hp → Prop}, tevs K fa ca (evEs C es) W σ H (fun vs H' => Q (pz ks vs) H') → tPairs (trsOf K fa ca C W ks es) σ H Q
  | .nil, ks, σ, H, Q, ⟨A, G, S, g, s, p⟩ => by
    simp only [evEs] at p
    exact p [] H A Ext.refl s .nil
  | .cons e es, ks, σ, H, Q, ⟨A, G, S, g, s, p⟩ => by
    simp only [evEs] at p
    show tev K fa ca (evE C e) W σ H fun y H2 => tPairs (trsOf K fa ca C W ks.tail es) σ H2 fun ps H3 => Q ((.str (ks.headD ""), y) :: ps) H3
    refine (NW.sub (rep1 := Rep K fa) g s p).mono fun x H1 ⟨A1, a, S1, e1, s1, r1, p1⟩ => ?_
    refine pairs_run (es := es) ((NW.sub (rep1 := RepL K fa) (g.mono e1) s1 p1).mono fun xs H2 ⟨A2, ds, S2, e2, s2, r2, p2⟩ => ?_)
    exact p2 (x :: xs) H2 A2 Ext.refl s2 (.cons (Rep.mono e2 _ _ r1) r2)
theorem putK_new {kvs : List (Key × V)} {key : Key} {v : V} (h : ∀ p ∈ kvs, p.1 ≠ key) : putK kvs key v = kvs ++ [(key, v)] := by
  unfold putK
  rw [if_neg]
  simp only [List.any_eq_true, decide_eq_true_eq, not_exists, not_and]
  exact h
theorem mergeK_new : ∀ {more kvs : List (Key × V)}, (more.map (·.1)).Nodup → (∀ p ∈ kvs, ∀ q ∈ more, p.1 ≠ q.1) → mergeK kvs more = kvs ++ more
  | [], kvs, _, _ => by simp [mergeK]
  | q :: more, kvs, hn, hd => by
    rw [List.map_cons, List.nodup_cons] at hn
    show mergeK (putK kvs q.1 q.2) more = _
    rw [putK_new fun p hp => hd p hp q List.mem_cons_self, mergeK_new hn.2 fun p hp r hr => ?_, List.append_assoc]
    · rfl
    · rcases List.mem_append.mp hp with hp | hp
      · exact hd p hp r (List.mem_cons_of_mem _ hr)
      · rw [List.mem_singleton.mp hp]
        exact fun z => hn.1 (List.mem_map.mpr ⟨r, hr, z.symm⟩)
def kz (ks : List Str) (vs : List V) : List (Key × V) := (ks.zip vs).map fun p => (.inr p.1, p.2)
theorem pz_kz : ∀ {ks : List Str} {vs : List V}, ks.length = vs.length → pz ks vs = (kz ks vs).map fun kv => (kV kv.1, kv.2)
  | [], [], _ => rfl
  | x :: ks, v :: vs, h => by
    show (V.str x, v) :: pz ks vs = _
    rw [pz_kz (by simpa using h)]
    rfl
theorem kz_nodup {ks : List Str} {vs : List V} (h : ks.Nodup) (hl : ks.length = vs.length) : ((kz ks vs).map (·.1)).Nodup := by
  have e : (kz ks vs).map (·.1) = ks.map Sum.inr := by
    unfold kz
    rw [List.map_map]
    have : ((fun p : Key × V => p.1) ∘ fun p : Str × V => ((.inr p.1, p.2) : Key × V)) = (Sum.inr ∘ Prod.fst) := rfl
    rw [this, ← List.map_map, List.map_fst_zip (by omega)]
  rw [e]
  exact List.Pairwise.map _ (fun a b hab z => hab (Sum.inr.inj z)) h
theorem kz_val {x : Str} {d : NW.D} : ∀ {ks : List Str} {vs : List V} {ds : List NW.D}, RepL K fa A H vs ds → (ks.zip ds).lookup x = some d → ∃ v, valV (kz ks vs) (.inr x) = some v ∧ Rep K fa A H v d
  | [], _, _, _, h => by cases h
  | y :: ks, _, [], r, h => by cases h
  | y :: ks, _, e :: ds, .cons (v := v) (vs := vs) r1 r2, h => by
    rw [List.zip_cons_cons, List.lookup_cons] at h
    by_cases hx : x = y
    · subst hx
      rw [beq_self_eq_true] at h
      cases h
      exact ⟨v, by simp [kz, valV], r1⟩
    · rw [beq_false_of_ne hx] at h
      obtain ⟨u, h1, h2⟩ := kz_val r2 h
      refine ⟨u, ?_, h2⟩
      unfold kz valV at h1 ⊢
      rw [List.zip_cons_cons, List.map_cons, List.find?_cons_of_neg (by simp only [decide_eq_true_eq]; exact fun z => hx (Sum.inr.inj z).symm)]
      exact h1
theorem pickD_some {ks : List Str} {ds : List NW.D} {d e : NW.D} (h : pickD ks ds d = some e) : ∃ x, d = .str x ∧ (ks.zip ds).lookup x = some e := by
  unfold pickD at h
  split at h
  · exact ⟨_, rfl, h⟩
  · cases h
theorem s_pick {ks : List Str} {es : Es} {kx : E} {keys : List (Option Expr)} {vals : List Expr} {pk : Expr} {p p2 : Pos} (hg : Good T fa ca k X) (hp : plain pk = true) (hall : keys.all (·.isSome) = true) (hl : keys.length = vals.length) (h0 : keys ≠ []) (h15 : keys.length ≤ 15)
    (hps : PPs X p2 keys vals (trsOf X.K fa ca C W ks es)) (hk : PE X pk (tev X.K fa ca (evE C kx) W)) : PE X (.Subscript (.Dict keys vals p2) pk p) (tev X.K fa ca (evE C (.pick ks es kx)) W) := by
  refine PE_of (pe_dget (by have := room200 hg.room; omega) (pe_disp hps hall hl h0 h15) hk (plain_ix hp)) fun σ H Q ⟨A, G, S, g, s, pp⟩ => ?_
  simp only [evE] at pp
  intro D hD
  have m0 : Gd A H D (A.guard D) (upd H D (.dK [])) := Gd.start s hD
  have g0 : GRel X.K fa (A.guard D) (upd H D (.dK [])) σ G := ⟨g.1, fun i d h => let ⟨v, h1, h2⟩ := g.2 i d h; ⟨v, h1, Rep.carry (A := A) (A1 := A.guard D) (fun _ _ m => m) (guard_rep hD) _ _ h2⟩⟩
  refine pairs_run ⟨A.guard D, G, S, g0, s.guard hD, ?_⟩
  cases hr : evEs C es G S with
  | bad => rw [hr] at pp; exact pp.elim
  | exc x S1 =>
    rw [hr] at pp
    intro c d H' A' e' s' rx
    have m := m0.step e'
    exact pp c d H' (A'.bare A.fb) m.ext (s'.bare m.sub) (rx.bare m.sub)
  | ok ds S1 =>
    rw [hr] at pp
    intro vs H1 A1 e1 s1 r1
    have m1 := m0.step e1
    have a1 : H1 D = some (.dK []) := m0.at_ (s.guard hD) upd_same e1
    replace pp : RPost X.K fa ca (Rep X.K fa) (if pickOk ks ds.length then (evE C kx G S1).bind fun d S2 => R.opt (pickD ks ds d) S2 else .bad) A H Q (fun c d H' => W c d σ H') := pp
    split at pp
    case isFalse => exact pp.elim
    rename_i hok
    obtain ⟨k1, k2, k3, k4⟩ := of_decide_eq_true hok
    have hlv : ks.length = vs.length := by rw [k1, r1.length]
    refine ⟨a1, kz ks vs, pz_kz hlv, by simp only [kz, List.length_map, List.length_zip]; omega, ?_⟩
    rw [mergeK_new (kz_nodup k4 hlv) (fun p hp => by cases hp), List.nil_append]
    have m2 := m1.off (o := .dK (kz ks vs)) hD
    have s2 : SRel X.K fa A1 (upd H1 D (.dK (kz ks vs))) S1 := s1.off m1.mem
    refine ⟨A1, G, S1, ⟨g.1, fun i d h => let ⟨v, h1, h2⟩ := (g0.mono e1).2 i d h; ⟨v, h1, Rep.carry (fun _ _ m => m) (off_rep m1.mem) _ _ h2⟩⟩, s2, ?_⟩
    cases hr2 : evE C kx G S1 with
    | bad => rw [hr2] at pp; exact pp.elim
    | exc x S2 =>
      rw [hr2] at pp
      intro c d H' A' e' s' rx
      have m := m2.step e'
      exact pp c d H' (A'.bare A.fb) m.ext (s'.bare m.sub) (rx.bare m.sub)
    | ok d S2 =>
      rw [hr2] at pp
      replace pp : RPost X.K fa ca (Rep X.K fa) (R.opt (pickD ks ds d) S2) A H Q (fun c d H' => W c d σ H') := pp
      obtain ⟨e, he, pq⟩ := opt_post pp
      obtain ⟨x, rfl, hx⟩ := pickD_some he
      intro y H3 A3 e3 s3 r3
      cases r3
      have m3 := m2.step e3
      have a3 : H3 D = some (.dK (kz ks vs)) := m2.at_ s2 upd_same e3
      have rl : RepL X.K fa A1 (upd H1 D (.dK (kz ks vs))) vs ds := RepL.carry (fun _ _ m => m) (off_rep m1.mem) _ _ r1
      obtain ⟨v, hv, rv⟩ := kz_val (RepL.mono e3 _ _ rl) hx
      refine ⟨D, v, rfl, .inl ⟨_, .inr x, .inl a3, rfl, hv.symm⟩, ?_⟩
      exact pq v H3 (A3.bare A.fb) m3.ext (s3.bare m3.sub) (Rep.bare m3.sub _ _ rv)
/-! ### all expressions -/
def nonTest : Expr → Bool
  | .UnaryOp .Not _ _ => false
  | .BoolOp .. => false
  | .IfExp .. => false
  | .Compare .. => false
  | _ => true
theorem he_of {pe : Expr} (h : nonTest pe = true) (env : PySem.Env) : ∀ whole, PySem.isTrue pe env whole = (do let v ← whole; standAt pe.pos; holding [v] (truthy v)) := by
  intro whole
  cases pe <;> first | rfl | (simp only [nonTest] at h; cases h; done) | skip
  rename_i op e p
  cases op <;> first | rfl | (simp only [nonTest] at h; cases h; done)
theorem loc_of {scope sc : Scope} {x : Str} (h : loc scope x = true) : Loc (relS scope sc) x ∧ ((scope.names.lookup x == some NameKind.cell) = true ∨ (relS scope sc).names.lookup x = some .local) := by
  unfold loc at h
  simp only [Bool.or_eq_true, decide_eq_true_eq] at h
  rcases h with h | h
  · have q := lookup_relS_keep (sc := sc) (by decide) h
    exact ⟨.inl q, .inr q⟩
  · have q := lookup_relS_keep (sc := sc) (by decide) h
    exact ⟨.inr q, .inl (by rw [h]; rfl)⟩
theorem mKeys_all : ∀ {ks : List Str} {keys : List (Option Expr)}, mKeys ks keys = true → keys.all (·.isSome) = true
  | [], [], _ => rfl
  | [], _ :: _, h => by simp only [mKeys] at h; cases h
  | _ :: _, [], _ => rfl
  | x :: ks, o :: keys, h => by
    match o, h with
    | some (.Constant (.str y) _ _), h =>
      simp only [mKeys, Bool.and_eq_true] at h
      simp only [List.all_cons, Option.isSome_some, Bool.true_and]
      exact mKeys_all h.2
theorem both {m : ME} {pe : Expr} (h : PE X pe (tev X.K fa ca m W)) (hn : nonTest pe = true) : PE X pe (tev X.K fa ca m W) ∧ PT X pe (tevT X.K fa ca m W) := ⟨h, s_val h (he_of hn _)⟩
mutual
theorem sE : ∀ (e : E) (X : Cx) (W : WX) (pe : Expr), Good T fa ca k X → Takes X W → mE T X.N e X.env.scope pe = true →
    PE X pe (tev X.K fa ca (evE (callN T.fn k) e) W) ∧ PT X pe (tevT X.K fa ca (evE (callN T.fn k) e) W)
  | .var i, X, W, pe, hg, tk, h => by
    cases pe <;> (try simp only [mE] at h) <;> first | (cases h; done) | skip
    simp only [Bool.and_eq_true, decide_eq_true_eq] at h
    exact both (s_var (fa := fa) (ca := ca) (W := W) (C := callN T.fn k) h.1 h.2) rfl
  | .non, X, W, pe, hg, tk, h => by
    cases pe <;> (try simp only [mE] at h) <;> first | (cases h; done) | skip
    rename_i c j p
    cases c <;> (try simp only [mE] at h) <;> first | (cases h; done) | skip
    exact both (s_leaf (fa := fa) (ca := ca) (W := W) (m := evE (callN T.fn k) .non) (pe_non (X := X) (j := j) (pos := p)) (fun _ _ => .non) (fun G S => by simp only [evE])) rfl
  | .bl b, X, W, pe, hg, tk, h => by
    cases pe <;> (try simp only [mE] at h) <;> first | (cases h; done) | skip
    rename_i c j p
    cases c <;> (try simp only [mE] at h) <;> first | (cases h; done) | skip
    have h := of_decide_eq_true h
    subst h
    exact both (s_leaf (fa := fa) (ca := ca) (W := W) (m := evE (callN T.fn k) (.bl b)) (pe_bl (X := X) (b := b) (j := j) (pos := p)) (fun _ _ => .bl b) (fun G S => by simp only [evE])) rfl
  | .int b, X, W, pe, hg, tk, h => by
    cases pe <;> (try simp only [mE] at h) <;> first | (cases h; done) | skip
    rename_i c j p
    cases c <;> (try simp only [mE] at h) <;> first | (cases h; done) | skip
    have h := of_decide_eq_true h
    subst h
    exact both (s_leaf (fa := fa) (ca := ca) (W := W) (m := evE (callN T.fn k) (.int b)) (pe_int (X := X) (i := b) (j := j) (pos := p)) (fun _ _ => .int b) (fun G S => by simp only [evE])) rfl
  | .str b, X, W, pe, hg, tk, h => by
    cases pe <;> (try simp only [mE] at h) <;> first | (cases h; done) | skip
    rename_i c j p
    cases c <;> (try simp only [mE] at h) <;> first | (cases h; done) | skip
    have h := of_decide_eq_true h
    subst h
    exact both (s_leaf (fa := fa) (ca := ca) (W := W) (m := evE (callN T.fn k) (.str b)) (pe_str (X := X) (x := b) (j := j) (pos := p)) (fun _ _ => .str b) (fun G S => by simp only [evE])) rfl
  | .cst x d, X, W, pe, hg, tk, h => by
    cases pe <;> (try simp only [mE] at h) <;> first | (cases h; done) | skip
    simp only [Bool.and_eq_true, decide_eq_true_eq] at h
    obtain ⟨rfl, h1, h2⟩ := h
    cases hc : T.cst x with
    | none => rw [hc] at h2; cases h2
    | some d' =>
      rw [hc] at h2
      have e := D.same_eq _ _ h2
      subst e
      obtain ⟨v, u, m1, m2, m3⟩ := hg.top.cst x d hc
      obtain ⟨g1, g2⟩ := gl_of h1
      exact both (s_leaf (fa := fa) (ca := ca) (W := W) (m := evE (callN T.fn k) (.cst x d)) (pe_glob (X := X) g1 m1 m2 (okN_of g2).1) m3 (fun G S => by simp only [evE])) rfl
  | .bin op a b, X, W, pe, hg, tk, h => by
    cases pe <;> (try simp only [mE] at h) <;> first | (cases h; done) | skip
    simp only [Bool.and_eq_true, decide_eq_true_eq] at h
    obtain ⟨rfl, h1, h2⟩ := h
    exact both (s_bin (m := evE (callN T.fn k) (.bin op a b)) (sE a X W _ hg tk h1).1 (sE b X W _ hg tk h2).1 (fun G S => by simp only [evE])) rfl
  | .neg a, X, W, pe, hg, tk, h => by
    cases pe <;> (try simp only [mE] at h) <;> first | (cases h; done) | skip
    rename_i op p pos
    cases op <;> (try simp only [mE] at h) <;> first | (cases h; done) | skip
    exact both (s_neg (m := evE (callN T.fn k) (.neg a)) (sE a X W _ hg tk h).1 (fun G S => by simp only [evE])) rfl
  | .cmp op a b, X, W, pe, hg, tk, h => by
    cases pe <;> (try simp only [mE] at h) <;> first | (cases h; done) | skip
    rename_i p ops qs pos
    cases ops with
    | nil => simp only [mE] at h; cases h
    | cons o ops =>
      cases ops with
      | cons o2 ops => cases qs with
        | nil => simp only [mE] at h; cases h
        | cons q qs => cases qs <;> simp only [mE] at h <;> cases h
      | nil =>
        cases qs with
        | nil => simp only [mE] at h; cases h
        | cons q qs =>
          cases qs with
          | cons q2 qs => simp only [mE] at h; cases h
          | nil =>
            simp only [mE, Bool.and_eq_true, decide_eq_true_eq] at h
            obtain ⟨rfl, h0, h1, h2⟩ := h
            exact s_cmp (m := evE (callN T.fn k) (.cmp op a b)) hg h0 (sE a X W _ hg tk h1).1 (sE b X W _ hg tk h2).1 (fun G S => by simp only [evE])
  | .chn op op' a b c, X, W, pe, hg, tk, h => by
    cases pe <;> (try simp only [mE] at h) <;> first | (cases h; done) | skip
    rename_i p ops qs pos
    match ops, qs, h with
    | [o, o'], [q, r], h =>
      simp only [mE, Bool.and_eq_true, decide_eq_true_eq] at h
      obtain ⟨rfl, rfl, h0, h1, h2, h3⟩ := h
      exact s_chn (m := evE (callN T.fn k) (.chn op op' a b c)) hg h0 (sE a X W _ hg tk h1).1 (sE b X W _ hg tk h2).1 (sE c X W _ hg tk h3).1 (fun G S => by simp only [evE])
  | .and es, X, W, pe, hg, tk, h => by
    cases pe <;> (try simp only [mE] at h) <;> first | (cases h; done) | skip
    rename_i op qs pos
    cases op <;> (try simp only [mE] at h) <;> first | (cases h; done) | skip
    have q := sAnd es X W qs pos hg tk h
    refine ⟨PE_of q.1 fun σ H Q ⟨A, G, S, g, s, p⟩ => ⟨A, G, S, g, s, by simpa only [evE] using p⟩, PT_of q.2.pt fun σ H Q ⟨A, G, S, g, s, p⟩ => ⟨A, G, S, g, s, by simpa only [evE] using p⟩⟩
  | .or es, X, W, pe, hg, tk, h => by
    cases pe <;> (try simp only [mE] at h) <;> first | (cases h; done) | skip
    rename_i op qs pos
    cases op <;> (try simp only [mE] at h) <;> first | (cases h; done) | skip
    have q := sOr es X W qs pos hg tk h
    refine ⟨PE_of q.1 fun σ H Q ⟨A, G, S, g, s, p⟩ => ⟨A, G, S, g, s, by simpa only [evE] using p⟩, PT_of q.2.pt fun σ H Q ⟨A, G, S, g, s, p⟩ => ⟨A, G, S, g, s, by simpa only [evE] using p⟩⟩
  | .not a, X, W, pe, hg, tk, h => by
    cases pe <;> (try simp only [mE] at h) <;> first | (cases h; done) | skip
    rename_i op p pos
    cases op <;> (try simp only [mE] at h) <;> first | (cases h; done) | skip
    exact s_not (m := evE (callN T.fn k) (.not a)) (sE a X W _ hg tk h) (fun G S => by simp only [evE])
  | .ite c a b, X, W, pe, hg, tk, h => by
    cases pe <;> (try simp only [mE] at h) <;> first | (cases h; done) | skip
    simp only [Bool.and_eq_true] at h
    exact s_ite (m := evE (callN T.fn k) (.ite c a b)) (sE c X W _ hg tk h.1).2 (sE a X W _ hg tk h.2.1) (sE b X W _ hg tk h.2.2) (fun G S => by simp only [evE])
  | .tup es, X, W, pe, hg, tk, h => by
    cases pe <;> (try simp only [mE] at h) <;> first | (cases h; done) | skip
    exact both (s_tup (sEs es X W _ hg tk h)) rfl
  | .lst es, X, W, pe, hg, tk, h => by
    cases pe <;> (try simp only [mE] at h) <;> first | (cases h; done) | skip
    exact both (s_lst (sEs es X W _ hg tk h)) rfl
  | .nlst es, X, W, pe, hg, tk, h => by
    cases pe <;> (try simp only [mE] at h) <;> first | (cases h; done) | skip
    exact both (s_nlst (sEs es X W _ hg tk h)) rfl
  | .idx a i, X, W, pe, hg, tk, h => by
    cases pe <;> (try simp only [mE] at h) <;> first | (cases h; done) | skip
    simp only [Bool.and_eq_true] at h
    exact both (s_idx hg h.1 (sE a X W _ hg tk h.2.1).1 (sE i X W _ hg tk h.2.2).1) rfl
  | .sl a lo hi, X, W, pe, hg, tk, h => by
    cases pe <;> (try simp only [mE] at h) <;> first | (cases h; done) | skip
    rename_i pv sl pos
    cases sl <;> (try simp only [mE] at h) <;> first | (cases h; done) | skip
    rename_i l u st p2
    cases st <;> (try simp only [mE] at h) <;> first | (cases h; done) | skip
    simp only [Bool.and_eq_true] at h
    exact both (s_sl (sE a X W _ hg tk h.1).1 (sO lo X W _ hg tk h.2.1) (sO hi X W _ hg tk h.2.2)) rfl
  | .call f es, X, W, pe, hg, tk, h => by
    cases pe <;> (try simp only [mE] at h) <;> first | (cases h; done) | skip
    rename_i fn qs kws pos
    cases fn <;> (try simp only [mE] at h) <;> first | (cases h; done) | skip
    cases kws <;> (try simp only [mE] at h) <;> first | (cases h; done) | skip
    simp only [Bool.and_eq_true] at h
    obtain ⟨h1, h2, h3⟩ := h
    cases hf : T.fn f with
    | none => rw [hf] at h2; cases h2
    | some fd =>
      rw [hf] at h2
      exact both (s_call hg tk hf h1 (of_decide_eq_true h2) (mEs_plain h3) h3 (sEs es X W _ hg tk h3)) rfl
  | .cb f es, X, W, pe, hg, tk, h => by
    cases pe <;> (try simp only [mE] at h) <;> first | (cases h; done) | skip
    rename_i fn qs kws pos
    cases fn <;> (try simp only [mE] at h) <;> first | (cases h; done) | skip
    cases kws <;> (try simp only [mE] at h) <;> first | (cases h; done) | skip
    simp only [Bool.and_eq_true, Bool.not_eq_true', decide_eq_true_eq] at h
    exact both (s_cb hg h.1 h.2.1 h.2.2.1 (mEs_plain h.2.2.2) (sEs es X W _ hg tk h.2.2.2)) rfl
  | .isi a t, X, W, pe, hg, tk, h => by
    cases pe <;> (try simp only [mE] at h) <;> first | (cases h; done) | skip
    rename_i fn qs kws pos
    match fn, qs, kws, h with
    | .Name x _, [p, .Name y _], [], h =>
      simp only [mE, Bool.and_eq_true, decide_eq_true_eq] at h
      exact both (s_isi hg h.1 h.2.1 h.2.2.1 h.2.2.2.1 h.2.2.2.2.1 (sE a X W _ hg tk h.2.2.2.2.2).1) rfl
  | .comp elt own tg it c, X, W, pe, hg, tk, h => by
    cases pe <;> (try simp only [mE] at h) <;> first | (cases h; done) | skip
    rename_i q gs scope pos
    match gs, h with
    | [⟨t, i, ifs, 0⟩], h =>
      simp only [mE, Bool.and_eq_true] at h
      obtain ⟨h1, ⟨h0, h2⟩, h3, h4, h5, h6⟩ := h
      exact both (s_comp hg ⟨blkOk_by h1, h2, sI it X W t i hg tk h0 h3, h4, fun s H Cc cl fp => s_tg (X := X.blk s H scope (compEnvC scope cl Cc X.env) fp) hg.calm hg.nd (fun x hx => loc_of hx) h2,
        fun s H Cc cl fp => sC c (X.blk s H scope (compEnvC scope cl Cc X.env) fp) ifs (hg.blk ..) h5, fun s H Cc cl fp => (sE elt (X.blk s H scope (compEnvC scope cl Cc X.env) fp) W0 q (hg.blk ..) takes0 h6).1⟩) rfl
  | .dnew, X, W, pe, hg, tk, h => by
    cases pe <;> (try simp only [mE] at h) <;> first | (cases h; done) | skip
    rename_i keys vals p
    match keys, vals, h with
    | [], [], h => exact both s_dnew rfl
  | .fnv f, X, W, pe, hg, tk, h => by
    cases pe <;> (try simp only [mE] at h) <;> first | (cases h; done) | skip
    simp only [Bool.and_eq_true] at h
    cases hf : T.fn f with
    | none => rw [hf] at h; exact absurd h.2 Bool.false_ne_true
    | some fd =>
      rw [hf] at h
      exact both (s_fnv (C := callN T.fn k) (W := W) hg hf h.1 (of_decide_eq_true h.2)) rfl
  | .lcall i es, X, W, pe, hg, tk, h => by
    cases pe <;> (try simp only [mE] at h) <;> first | (cases h; done) | skip
    rename_i fn qs kws pos
    cases fn <;> (try simp only [mE] at h) <;> first | (cases h; done) | skip
    cases kws <;> (try simp only [mE] at h) <;> first | (cases h; done) | skip
    simp only [Bool.and_eq_true, decide_eq_true_eq] at h
    obtain ⟨h1, h2, h3⟩ := h
    exact both (s_lcall hg tk h1 h2 (mEs_plain h3) h3 (sEs es X W _ hg tk h3)) rfl
  | .pick ks es kx, X, W, pe, hg, tk, h => by
    cases pe <;> (try simp only [mE] at h) <;> first | (cases h; done) | skip
    rename_i o pk p
    cases o <;> (try simp only [mE] at h) <;> first | (cases h; done) | skip
    rename_i keys vals p2
    simp only [mE, Bool.and_eq_true, decide_eq_true_eq] at h
    obtain ⟨h1, h2, ⟨h3, h4, h5⟩, h6, h7⟩ := h
    exact both (s_pick hg h1 (mKeys_all h2) h3 (by rintro rfl; simp at h4) h5 (sPs es X W ks keys vals p2 hg tk h2 h3 h6) (sE kx X W pk hg tk h7).1) rfl
  | .dnewS, X, W, pe, hg, tk, h => by
    cases pe <;> (try simp only [mE] at h) <;> first | (cases h; done) | skip
    rename_i keys vals p
    match keys, vals, h with
    | [], [], h => exact both s_dnewS rfl
  | .split a b, X, W, pe, hg, tk, h => by
    match pe, h with
    | .Call (.Attribute p at_ ap) [q] [] cp, h =>
      simp only [mE, Bool.and_eq_true, decide_eq_true_eq] at h
      obtain ⟨rfl, h1, h2, h3, h4, h5⟩ := h
      exact both (s_split h2 h1 h3 (sE a X W p hg tk h4).1 (sE b X W q hg tk h5).1) rfl
  | .join a b, X, W, pe, hg, tk, h => by
    match pe, h with
    | .Call (.Attribute p at_ ap) [q] [] cp, h =>
      simp only [mE, Bool.and_eq_true, decide_eq_true_eq] at h
      obtain ⟨rfl, h1, h2, h3, h4, h5⟩ := h
      exact both (s_join h2 h1 h3 (sE a X W p hg tk h4).1 (sE b X W q hg tk h5).1) rfl
theorem sPs : ∀ (es : Es) (X : Cx) (W : WX) (ks : List Str) (keys : List (Option Expr)) (vals : List Expr) (pos : Pos), Good T fa ca k X → Takes X W → mKeys ks keys = true → keys.length = vals.length → mEs T X.N es X.env.scope vals = true → PPs X pos keys vals (trsOf X.K fa ca (callN T.fn k) W ks es)
  | .nil, X, W, ks, keys, [], pos, _, _, h, hl, _ => by
    cases keys with
    | nil => exact pps_nil
    | cons _ _ => cases hl
  | .cons e es, X, W, [], keys, p :: ps, pos, hg, tk, h, hl, h2 => by
    cases keys with
    | nil => cases hl
    | cons _ _ => simp only [mKeys] at h; cases h
  | .cons e es, X, W, x :: ks, keys, p :: ps, pos, hg, tk, h, hl, h2 => by
    simp only [mEs, Bool.and_eq_true] at h2
    match keys, h, hl with
    | some (.Constant (.str y) _ _) :: keys, h, hl =>
      simp only [mKeys, Bool.and_eq_true, decide_eq_true_eq] at h
      obtain ⟨rfl, h⟩ := h
      exact pps_cons pe_str (sE e X W p hg tk h2.2.1).1 (sPs es X W ks keys ps pos hg tk h (by simpa using hl) h2.2.2)
  | .nil, _, _, _, _, _ :: _, _, _, _, _, _, h => by simp only [mEs] at h; cases h
  | .cons _ _, _, _, _, _, [], _, _, _, _, _, h => by simp only [mEs] at h; cases h
theorem sEs : ∀ (es : Es) (X : Cx) (W : WX) (ps : List Expr), Good T fa ca k X → Takes X W → mEs T X.N es X.env.scope ps = true → PA X ps (tevs X.K fa ca (evEs (callN T.fn k) es) W)
  | .nil, X, W, [], _, _, _ => s_nil
  | .cons e es, X, W, p :: ps, hg, tk, h => by
    simp only [mEs, Bool.and_eq_true] at h
    exact s_cons h.1 (sE e X W p hg tk h.2.1).1 (sEs es X W ps hg tk h.2.2)
  | .nil, _, _, _ :: _, _, _, h => by simp only [mEs] at h; cases h
  | .cons _ _, _, _, [], _, _, h => by simp only [mEs] at h; cases h
theorem sAnd : ∀ (es : Es) (X : Cx) (W : WX) (ps : List Expr) (pos : Pos), Good T fa ca k X → Takes X W → mEs T X.N es X.env.scope ps = true →
    PE X (.BoolOp .And ps pos) (tev X.K fa ca (evAnd (callN T.fn k) es) W) ∧ PW X (.BoolOp .And ps pos) (tevT X.K fa ca (evAnd (callN T.fn k) es) W)
  | .nil, X, W, ps, pos, _, _, _ => by
    have no : ∀ {σ H} {Q : VK}, ¬ tev X.K fa ca (evAnd (callN T.fn k) .nil) W σ H Q := fun {σ H Q} ⟨A, G, S, g, s, p⟩ => by simp only [evAnd] at p; exact p
    have no2 : ∀ {σ H} {Q : Bool → Hp → Prop}, ¬ tevT X.K fa ca (evAnd (callN T.fn k) .nil) W σ H Q := fun {σ H Q} ⟨A, G, S, g, s, p⟩ => by simp only [evAnd, R.toB, R.bind] at p; exact p
    exact ⟨⟨fun _ _ _ _ _ _ h => absurd h no⟩, ⟨fun _ _ _ _ _ _ _ h => absurd h no2⟩⟩
  | .cons e .nil, X, W, [p], pos, hg, tk, h => by
    simp only [mEs, Bool.and_eq_true] at h
    exact s_and1 (sE e X W p hg tk h.2.1) (evAnd_one e)
  | .cons e (.cons e2 es), X, W, p :: p2 :: ps, pos, hg, tk, h => by
    simp only [mEs, Bool.and_eq_true] at h
    refine s_andc (sE e X W p hg tk h.2.1) (sAnd (.cons e2 es) X W (p2 :: ps) pos hg tk ?_) (evAnd_more e e2 es)
    simp only [mEs, Bool.and_eq_true]
    exact h.2.2
  | .cons e .nil, _, _, p :: p2 :: ps, _, _, _, h => by simp only [mEs, Bool.and_eq_true] at h; exact absurd h.2.2 (by simp)
  | .cons e (.cons _ _), _, _, [p], _, _, _, h => by simp only [mEs, Bool.and_eq_true] at h; exact absurd h.2.2 (by simp)
  | .cons _ _, _, _, [], _, _, _, h => by simp only [mEs] at h; cases h
theorem sOr : ∀ (es : Es) (X : Cx) (W : WX) (ps : List Expr) (pos : Pos), Good T fa ca k X → Takes X W → mEs T X.N es X.env.scope ps = true →
    PE X (.BoolOp .Or ps pos) (tev X.K fa ca (evOr (callN T.fn k) es) W) ∧ PW X (.BoolOp .Or ps pos) (tevT X.K fa ca (evOr (callN T.fn k) es) W)
  | .nil, X, W, ps, pos, _, _, _ => by
    have no : ∀ {σ H} {Q : VK}, ¬ tev X.K fa ca (evOr (callN T.fn k) .nil) W σ H Q := fun {σ H Q} ⟨A, G, S, g, s, p⟩ => by simp only [evOr] at p; exact p
    have no2 : ∀ {σ H} {Q : Bool → Hp → Prop}, ¬ tevT X.K fa ca (evOr (callN T.fn k) .nil) W σ H Q := fun {σ H Q} ⟨A, G, S, g, s, p⟩ => by simp only [evOr, R.toB, R.bind] at p; exact p
    exact ⟨⟨fun _ _ _ _ _ _ h => absurd h no⟩, ⟨fun _ _ _ _ _ _ _ h => absurd h no2⟩⟩
  | .cons e .nil, X, W, [p], pos, hg, tk, h => by
    simp only [mEs, Bool.and_eq_true] at h
    exact s_or1 (sE e X W p hg tk h.2.1) (evOr_one e)
  | .cons e (.cons e2 es), X, W, p :: p2 :: ps, pos, hg, tk, h => by
    simp only [mEs, Bool.and_eq_true] at h
    refine s_orc (sE e X W p hg tk h.2.1) (sOr (.cons e2 es) X W (p2 :: ps) pos hg tk ?_) (evOr_more e e2 es)
    simp only [mEs, Bool.and_eq_true]
    exact h.2.2
  | .cons e .nil, _, _, p :: p2 :: ps, _, _, _, h => by simp only [mEs, Bool.and_eq_true] at h; exact absurd h.2.2 (by simp)
  | .cons e (.cons _ _), _, _, [p], _, _, _, h => by simp only [mEs, Bool.and_eq_true] at h; exact absurd h.2.2 (by simp)
  | .cons _ _, _, _, [], _, _, _, h => by simp only [mEs] at h; cases h
theorem sO : ∀ (o : Oe) (X : Cx) (W : WX) (p : Option Expr), Good T fa ca k X → Takes X W → mO T X.N o X.env.scope p = true → PO X p (tevG X.K fa ca RepP (evO (callN T.fn k) o) W)
  | .none, X, W, none, _, _, _ => s_none
  | .some e, X, W, some p, hg, tk, h => by
    simp only [mO] at h
    exact s_some (sE e X W p hg tk h).1
  | .none, _, _, some _, _, _, h => by simp only [mO] at h; cases h
  | .some _, _, _, none, _, _, h => by simp only [mO] at h; cases h
theorem sC : ∀ (o : Oe) (X : Cx) (ps : List Expr), Good T fa ca k X → mC T X.N o X.env.scope ps = true → PTs X ps (tcond X.K fa ca (evC (callN T.fn k) o))
  | .none, X, [], _, _ => by simp only [evC, tcond]; exact pts_nil
  | .some e, X, [p], hg, h => by
    simp only [mC] at h
    simp only [evC, tcond]
    exact pts_one (sE e X W0 p hg takes0 h).2
  | .none, _, _ :: _, _, h => by simp only [mC] at h; cases h
  | .some _, _, [], _, h => by simp only [mC] at h; cases h
  | .some _, _, _ :: _ :: _, _, h => by simp only [mC] at h; cases h
theorem sI : ∀ (it : It) (X : Cx) (W : WX) (tg p : Expr), Good T fa ca k X → Takes X W → itTg it tg = true → mI T X.N it X.env.scope p = true → PI X tg p (tevI X.K fa ca (evI (callN T.fn k) it) W)
  | .e a, X, W, tg, p, hg, tk, _, h => by
    simp only [mI] at h
    exact s_iter (sE a X W p hg tk h).1
  | .rng a, X, W, tg, p, hg, tk, _, h => by
    match p, h with
    | .Call (.Name x _) [p] [] _, h =>
      simp only [mI, Bool.and_eq_true, decide_eq_true_eq] at h
      exact s_rng1 hg h.1 h.2.1 h.2.2.1 (sE a X W p hg tk h.2.2.2).1
  | .rng2 a b, X, W, tg, p, hg, tk, _, h => by
    match p, h with
    | .Call (.Name x _) [p, q] [] _, h =>
      simp only [mI, Bool.and_eq_true, decide_eq_true_eq] at h
      exact s_rng2 hg h.1 h.2.1 h.2.2.1 h.2.2.2.1 (sE a X W p hg tk h.2.2.2.2.1).1 (sE b X W q hg tk h.2.2.2.2.2).1
  | .enum a, X, W, tg, p, hg, tk, ht, h => by
    match p, h with
    | .Call (.Name x _) [p] [] _, h =>
      simp only [mI, Bool.and_eq_true, decide_eq_true_eq] at h
      cases tg <;> first | (exact Bool.noConfusion ht; done) | skip
      exact s_enum hg h.1 h.2.1 h.2.2.1 (sE a X W p hg tk h.2.2.2).1
  | .zip a b, X, W, tg, p, hg, tk, ht, h => by
    match p, h with
    | .Call (.Name x _) [p, q] [] _, h =>
      simp only [mI, Bool.and_eq_true, decide_eq_true_eq] at h
      cases tg <;> first | (exact Bool.noConfusion ht; done) | skip
      exact s_zip hg h.1 h.2.1 h.2.2.1 h.2.2.2.1 (sE a X W p hg tk h.2.2.2.2.1).1 (sE b X W q hg tk h.2.2.2.2.2).1
end
end
end NW
end
section
/- Statements, defs. -/
namespace NW
open PySem PySem.Spec L2

/-! ### the text against the core syntax -/
def swN (sc : Scope) (ts : List Expr) : List Str := ts.filterMap fun
  | .Name id pos => if sc.names.lookup id == some .local && pos.line == (ts.head?.map (·.pos.line)).getD 0 then some id else none
  | _ => none
def anyStar (vs : List Expr) : Bool := vs.any fun | .Starred .. => true | _ => false
/-- a tuple's names are stored one by one, from the right -/
def swYes (sc : Scope) (ts vs : List Expr) : Bool := (ts.length == 2 || ts.length == 3) && (vs.length == ts.length && (!anyStar vs && ((swN sc ts).length == ts.length && ((swN sc ts).eraseDups.length == (swN sc ts).length &&
  (!vs.all (foldedForSure 8) && !vs.all (constantsAlone 8))))))
def swNo (sc : Scope) (ts : List Expr) : Expr → Bool
  | .Tuple vs _ _ => !(ts.length == 2 || ts.length == 3) || (vs.length != ts.length || (anyStar vs || ((swN sc ts).length != ts.length || ((swN sc ts).eraseDups.length != (swN sc ts).length || vs.all (foldedForSure 8)))))
  | _ => true
theorem swYes_ok {env : PySem.Env} (hk : env.blockKind = .function) {ts vs : List Expr} {k k2 : Nat} {p p2 : Pos} (h : swYes env.scope ts vs = true) : swappedStores [.Tuple ts k p] (.Tuple vs k2 p2) env = pure (some (swN env.scope ts)) := by
  unfold swYes at h
  simp only [Bool.and_eq_true, Bool.not_eq_true', beq_iff_eq] at h
  obtain ⟨h1, h2, h3, h4, h5, h6, h7⟩ := h
  show (if (!(ts.length == 2 || ts.length == 3) || vs.length != ts.length || env.blockKind != .function) = true then pure none else if anyStar vs = true then pure none else
    if ((swN env.scope ts).length != ts.length || (swN env.scope ts).eraseDups.length != (swN env.scope ts).length) = true then pure none else if vs.all (foldedForSure 8) = true then pure none else
    if vs.all (constantsAlone 8) = true then (do unsupported "assign.tuple-of-constant-expressions:order-of-the-stores"; pure (some (swN env.scope ts))) else pure (some (swN env.scope ts)) : Sem (Option (List Str))) = _
  rw [h1, h2, hk, h3, h5, h4, h6, h7]
  simp only [bne_self_eq_false, Bool.not_true, Bool.or_self, Bool.false_eq_true, if_false]
theorem swNo_ok {env : PySem.Env} (hk : env.blockKind = .function) {ts : List Expr} {q : Expr} {k : Nat} {p : Pos} (h : swNo env.scope ts q = true) : swappedStores [.Tuple ts k p] q env = pure none := by
  cases q with
  | Tuple vs k2 p2 =>
    unfold swNo at h
    simp only [Bool.or_eq_true] at h
    show (if (!(ts.length == 2 || ts.length == 3) || vs.length != ts.length || env.blockKind != .function) = true then pure none else if anyStar vs = true then pure none else
      if ((swN env.scope ts).length != ts.length || (swN env.scope ts).eraseDups.length != (swN env.scope ts).length) = true then pure none else if vs.all (foldedForSure 8) = true then pure none else
      if vs.all (constantsAlone 8) = true then (do unsupported "assign.tuple-of-constant-expressions:order-of-the-stores"; pure (some (swN env.scope ts))) else pure (some (swN env.scope ts)) : Sem (Option (List Str))) = _
    by_cases c1 : (!(ts.length == 2 || ts.length == 3) || vs.length != ts.length || env.blockKind != .function) = true
    · rw [if_pos c1]
    rw [if_neg c1]
    by_cases c2 : anyStar vs = true
    · rw [if_pos c2]
    rw [if_neg c2]
    by_cases c3 : ((swN env.scope ts).length != ts.length || (swN env.scope ts).eraseDups.length != (swN env.scope ts).length) = true
    · rw [if_pos c3]
    rw [if_neg c3]
    simp only [Bool.or_eq_true, not_or] at c1 c3
    rcases h with h | h | h | h | h | h
    · exact absurd h c1.1.1
    · exact absurd h c1.1.2
    · exact absurd h c2
    · exact absurd h c3.1
    · exact absurd h c3.2
    · rw [if_pos h]
  | _ => rfl

def swList (sc : Scope) (x : Str) (px : Pos) (q : Expr) : Option Bool :=
  match q with
  | .ListComp _ _ s p => some (decide (sc.names.lookup x = some .local) && (px.line == p.line && !(s.names.any fun (n, k) => n == x && (k == .local || k == .cell))))
  | .SetComp .. => none
  | .DictComp .. => none
  | _ => some false
theorem swList_ok {env : PySem.Env} (hk : env.blockKind = .function) {x : Str} {px : Pos} {q : Expr} {l : Nat} {b : Bool} (h : swList env.scope x px q = some b) : swapsWith q (some (.Name x px)) l env = pure b := by
  cases q <;> simp only [swList] at h <;> first | (cases h; done) | (cases h; rfl) | skip
  rename_i elt gs s p
  cases h
  unfold swapsWith
  simp only [hk]
  have e1 : (env.kindOf x == some NameKind.local) = decide (env.scope.names.lookup x = some .local) := by
    unfold Env.kindOf
    generalize env.scope.names.lookup x = o
    cases o with
    | none => rfl
    | some o => cases o <;> rfl
  rw [e1]
  have e2 : (ScopeKind.function == ScopeKind.function) = true := rfl
  rw [e2, Bool.true_and, Bool.and_assoc]
  rfl
def noComp : Expr → Bool
  | .ListComp .. => false
  | .SetComp .. => false
  | .DictComp .. => false
  | _ => true
theorem noComp_ok {env : PySem.Env} {q : Expr} {t : Option Expr} {l : Nat} (h : noComp q = true) : swapsWith q t l env = pure false := by
  cases q <;> first | rfl | (simp only [noComp] at h; cases h; done)
theorem swTup_ok {env : PySem.Env} {q : Expr} {ts : List Expr} {k : Nat} {p : Pos} {l : Nat} : swapsWithSole [.Tuple ts k p] q l env = pure false := by
  cases q <;> rfl
def kcOf : Kc → Expr → Bool
  | .bl b, .Constant (.bool c) _ _ => decide (b = c)
  | .str x, .Constant (.str y) _ _ => decide (x = y)
  | .int i, .Constant (.int j) _ _ => decide (i = j)
  | .non, .Constant .none _ _ => true
  | _, _ => false
def Kc.v : Kc → V
  | .bl b => .bl b
  | .str x => .str x
  | .int i => .int i
  | .non => .non
theorem pe_kc {X : Cx} {k : Kc} {e : Expr} (h : kcOf k e = true) : PE X e (tC k.v) ∧ noComp e = true := by
  unfold kcOf at h
  split at h
  · cases of_decide_eq_true h; exact ⟨pe_bl, rfl⟩
  · cases of_decide_eq_true h; exact ⟨pe_str, rfl⟩
  · cases of_decide_eq_true h; exact ⟨pe_int, rfl⟩
  · exact ⟨pe_non, rfl⟩
  · cases h
theorem rep_kc {K : PySem.W.Frag} {fa : Fa} {A : Pl} {H : Hp} (k : Kc) : Rep K fa A H k.v k.d := by
  cases k with
  | bl b => exact .bl b
  | str x => exact .str x
  | int i => exact .int i
  | non => exact .non
def mHb (N : List Str) (sc : Scope) : Hb → Stmt → Bool
  | .ret k, .Return (some e) _ => kcOf k e
  | .set i k, .Assign [.Name x _] e _ => decide (N[i]? = some x) && (loc sc x && kcOf k e)
  | _, _ => false
def mHs (T : Tb) (N : List Str) (sc : Scope) : List (Nat × Hb) → List ExceptHandler → Bool
  | [], [] => true
  | (c, hb) :: hs, .ExceptHandler (some (.Name x _)) none [st] _ :: hds => gl sc x && (decide (T.xc c = some x) && (mHb N sc hb st && mHs T N sc hs hds))
  | _, _ => false
def Ha.fld : Ha → Str
  | .ret f => f
  | .set _ f => f
/-- what a handler does that reads a field of the error n, which slot j holds -/
def mHa (N : List Str) (sc : Scope) (n : Str) (j : Nat) : Ha → Stmt → Bool
  | .ret f, .Return (some (.Attribute (.Name x _) g _)) _ => decide (x = n ∧ g = f)
  | .set i f, .Assign [.Name y _] (.Attribute (.Name x _) g _) _ => decide (x = n ∧ g = f ∧ N[i]? = some y) && loc sc y
  | _, _ => false
mutual
def mS (T : Tb) (N : List Str) (sc : Scope) : S → Stmt → Bool
  | .set i e, .Assign [.Name x px] q _ => decide (N[i]? = some x) && (loc sc x && ((swList sc x px q).isSome && mE T N e sc q))
  | .setT is e, .Assign [.Tuple ts _ _] q _ => mNames N (loc sc) is ts && (swNo sc ts q && mE T N e sc q)
  | .par is es, .Assign [.Tuple ts _ _] (.Tuple vs _ _) _ => mNames N (loc sc) is ts && (decide is.Nodup && (swYes sc ts vs && mEs T N es sc vs))
  | .setI o i e, .Assign [.Subscript p q _] r _ => noComp r && (plain q && (mE T N o sc p && (mE T N i sc q && mE T N e sc r)))
  | .ret e, .Return (some q) _ => mE T N e sc q
  | .exp e, .Expr q _ => noComp q && mE T N e sc q
  | .app o e, .Expr (.Call (.Attribute p at_ ap) [q] [] cp) _ => decide (at_ = ("append" : Str)) && (ap.endLine == cp.line && (baseOk p && (plain q && (mE T N o sc p && mE T N e sc q))))
  | .ife c a b, .If q xs ys _ => mE T N c sc q && (mSs T N sc a xs && mSs T N sc b ys)
  | .whl c b, .While q xs [] _ => mE T N c sc q && mSs T N sc b xs
  | .for_ tg it b, .For t i xs [] _ => itTg it t && (mTg N (loc sc) tg t && (plain i && (mI T N it sc i && mSs T N sc b xs)))
  | .brk, .Break _ => true
  | .raise c m, .Raise (some (.Call (.Name x _) [.Constant (.str y) _ _] [] _)) none _ => gl sc x && (decide (T.xc c = some x) && decide (m = y))
  | .raiseE c f e, .Raise (some (.Call (.Name x _) [q] [] _)) none _ => gl sc x && (decide (T.xi c = some (x, f)) && (plain q && mE T N e sc q))
  | .tryAs b c j h, .Try xs [.ExceptHandler (some (.Name x _)) (some n) [st] _] [] [] _ => gl sc x && (okN n && (decide (N[j]? = some n ∧ sc.names.lookup n = some .local ∧ T.xi c = some (x, h.fld)) && (mHa N sc n j h st && mSs T N sc b xs)))
  | .forK tg i b, .For t (.Name x _) xs [] _ => decide (N[i]? = some x) && (vis sc x && (mTg N (loc sc) tg t && mSs T N sc b xs))
  | .try_ b hs, .Try xs hds [] [] _ => !hds.isEmpty && (mHs T N sc hs hds && mSs T N sc b xs)
  | _, _ => false
def mSs (T : Tb) (N : List Str) (sc : Scope) : Ss → List Stmt → Bool
  | .nil, [] => true
  | .cons s ss, t :: ts => mS T N sc s t && mSs T N sc ss ts
  | _, _ => false
end
section
variable {T : Tb} {fa : Fa} {ca : Nat → Addr} {k : Nat} {X : Cx} {W : WX} {C : Calls}
variable {K : PySem.W.Frag} {A A1 A2 A' : Pl} {H H1 H2 H' : Hp} {σ : L2.St} {G : Env}
/-! ### what is wanted behind a statement -/
def SPost (K : PySem.W.Frag) (fa : Fa) (ca : Nat → Addr) (r : SR) (A : Pl) (H : Hp) (D : Ends) (W : WX) : Prop :=
  match r with
  | .fl .nx G S => ∀ σ' H' A', Ext A H A' H' → SRel K fa A' H' S → GRel K fa A' H' σ' G → D.nx σ' H'
  | .fl (.ret d) _ S => ∀ v H' A', Ext A H A' H' → SRel K fa A' H' S → Rep K fa A' H' v d → D.rt v H'
  | .fl .brk G S => ∀ σ' H' A', Ext A H A' H' → SRel K fa A' H' S → GRel K fa A' H' σ' G → D.bk σ' H'
  | .exc x G S => ∀ c d σ' H' A', Ext A H A' H' → SRel K fa A' H' S → GRel K fa A' H' σ' G → RepX K fa ca A' H' c d x → W c d σ' H'
  | .bad => False
theorem SPost.mono {r : SR} {D : Ends} (h : SPost K fa ca r A H D W) (e : Ext A H A1 H1) : SPost K fa ca r A1 H1 D W := by
  cases r with
  | fl f G S =>
    cases f with
    | nx => exact fun σ' H' A' e' s g => h σ' H' A' (e.trans e') s g
    | ret d => exact fun v H' A' e' s r => h v H' A' (e.trans e') s r
    | brk => exact fun σ' H' A' e' s g => h σ' H' A' (e.trans e') s g
  | exc x G S => exact fun c d σ' H' A' e' s g r => h c d σ' H' A' (e.trans e') s g r
  | bad => exact h
def tsv (K : PySem.W.Frag) (fa : Fa) (ca : Nat → Addr) (m : MS) (W : WX) : TS := fun D σ H => ∃ A G S, GRel K fa A H σ G ∧ SRel K fa A H S ∧ SPost K fa ca (m G S) A H D W
/-- an expression first -/
theorem subS {α β : Type} {rep1 : Pl → Hp → β → α → Prop} {m1 : Env → Store → R α} {f : α → Store → SR} {D : Ends} {S : Store}
    (g : GRel K fa A H σ G) (s : SRel K fa A H S) (p : SPost K fa ca ((m1 G S).toS G f) A H D W) :
    tevG K fa ca rep1 m1 W σ H (fun v H1 => ∃ A1 a S1, Ext A H A1 H1 ∧ SRel K fa A1 H1 S1 ∧ rep1 A1 H1 v a ∧ SPost K fa ca (f a S1) A1 H1 D W) := by
  refine ⟨A, G, S, g, s, ?_⟩
  cases hm : m1 G S with
  | ok a S1 => rw [hm] at p; exact fun v H' A' e s r => ⟨A', a, S1, e, s, r, SPost.mono p e⟩
  | exc x S1 => rw [hm] at p; exact fun c d H' A' e s r => p c d σ H' A' e s (g.mono e) r
  | bad => rw [hm] at p; exact p
theorem PS_of {X : Cx} {st : Stmt} {t t' : TS} (h : PS X st t) (i : ∀ D σ H, t' D σ H → t D σ H) : PS X st t' := ⟨fun pins s σ H D I q => h.run pins s σ H D I (i D σ H q)⟩
theorem PSs_of {X : Cx} {st : List Stmt} {t t' : TS} (h : PSs X st t) (i : ∀ D σ H, t' D σ H → t D σ H) : PSs X st t' := ⟨fun pins s σ H D I q => h.run pins s σ H D I (i D σ H q)⟩

structure GoodS (T : Tb) (fa : Fa) (ca : Nat → Addr) (k : Nat) (X : Cx) : Prop extends Good T fa ca k X where
  fn : ∀ x, X.fn x = true
  own : PassesOwn (model X.prog X.w) X.A X.env X.xe
  blk : X.env.blockKind = .function
  stk : X.stack = X.env :: X.outer
  frm : X.env.frame = some X.env.locals
theorem locS {sc : Scope} {x : Str} (h : loc sc x = true) : Loc sc x := by
  unfold loc at h
  simp only [Bool.or_eq_true, decide_eq_true_eq] at h
  exact h
theorem comp_ok {elt : E} {own : List Nat} {tg : Tg} {it : NW.It} {c : Oe} {q : Expr} {gs : List Comprehension} {scope : Scope} {p : Pos} (hg : Good T fa ca k X) (tk : Takes X W) (h : mE T X.N (.comp elt own tg it c) X.env.scope (.ListComp q gs scope p) = true) :
    ∃ t i ifs, gs = [⟨t, i, ifs, 0⟩] ∧ CompOk T fa ca X W (callN T.fn k) elt own tg it c q t i ifs scope := by
  match gs, h with
  | [⟨t, i, ifs, 0⟩], h =>
    simp only [mE, Bool.and_eq_true] at h
    obtain ⟨h1, ⟨h0, h2⟩, h3, h4, h5, h6⟩ := h
    exact ⟨t, i, ifs, rfl, ⟨blkOk_by h1, h2, sI it X W t i hg tk h0 h3, h4, fun s H Cc cl fp => s_tg (X := X.blk s H scope (compEnvC scope cl Cc X.env) fp) hg.calm hg.nd (fun x hx => loc_of hx) h2,
        fun s H Cc cl fp => sC c (X.blk s H scope (compEnvC scope cl Cc X.env) fp) ifs (hg.blk ..) h5, fun s H Cc cl fp => (sE elt (X.blk s H scope (compEnvC scope cl Cc X.env) fp) W0 q (hg.blk ..) takes0 h6).1⟩⟩
theorem t_set {i : Nat} {e : E} {x : Str} {px : Pos} {q : Expr} {p : Pos} (hg : GoodS T fa ca k X) (tk : Takes X W) (h : mS T X.N X.env.scope (.set i e) (.Assign [.Name x px] q p) = true) : PS X (.Assign [.Name x px] q p) (tsv X.K fa ca (evS (callN T.fn k) (.set i e)) W) := by
  simp only [mS, Bool.and_eq_true, decide_eq_true_eq] at h
  obtain ⟨h1, h2, h3, h4⟩ := h
  have fin : ∀ {D : Ends} {σ : L2.St} {H : Hp}, tsv X.K fa ca (evS (callN T.fn k) (.set i e)) W D σ H → tev X.K fa ca (evE (callN T.fn k) e) W σ H fun x H1 => gName i x σ H1 D.nx := fun {D σ H} ⟨A, G, S, g, s, p⟩ => by
    simp only [evS] at p
    refine (subS (rep1 := Rep X.K fa) g s p).mono fun v H1 ⟨A1, a, S1, e1, s1, r1, p1⟩ => ?_
    exact p1 _ H1 A1 Ext.refl s1 ((g.mono e1).set r1)
  cases hb : swList X.env.scope x px q with
  | none => rw [hb] at h3; cases h3
  | some b =>
    have hsw := fun l => swList_ok (l := l) hg.blk hb
    cases b with
    | false => exact PS_of (ps_set hg.nd h1 (locS h2) (sE e X W q hg.toGood tk h4).1 (hsw _) (.inl (hg.fn x))) fun D σ H q => fin q
    | true =>
      cases q <;> simp only [swList] at hb <;> first | (cases hb; done) | skip
      rename_i elt gs scope pos
      simp only [Option.some.injEq, Bool.and_eq_true, decide_eq_true_eq] at hb
      cases e <;> (try simp only [mE] at h4) <;> first | (cases h4; done) | skip
      rename_i elt' own tg it c
      obtain ⟨t, it', ifs, rfl, o⟩ := comp_ok hg.toGood tk (p := pos) (show mE T X.N (.comp elt' own tg it c) X.env.scope (.ListComp elt gs scope pos) = true from h4)
      exact PS_of (ps_setLc hg.calm hg.nd h1 hb.1 (hsw _) o.hit o.ok o.pg o.pt o.pe (plain_fold o.hpl _)) fun D σ H q => o.reads hg.toGood (fin q)
theorem t_setT {is : List Nat} {e : E} {ts : List Expr} {q : Expr} {j : Nat} {p2 p : Pos} (hg : GoodS T fa ca k X) (tk : Takes X W) (h : mS T X.N X.env.scope (.setT is e) (.Assign [.Tuple ts j p2] q p) = true) : PS X (.Assign [.Tuple ts j p2] q p) (tsv X.K fa ca (evS (callN T.fn k) (.setT is e)) W) := by
  simp only [mS, Bool.and_eq_true] at h
  obtain ⟨h1, h2, h3⟩ := h
  have hgt : PG X (.Tuple ts j p2) (gT X.K (.tup is)) := s_tg (ok := loc X.env.scope) hg.calm hg.nd (fun x hx => ⟨locS hx, .inl (hg.fn x)⟩) (by simpa only [mTg] using h1)
  refine PS_of (ps_asg (sE e X W q hg.toGood tk h3).1 hgt swTup_ok (swNo_ok hg.blk h2) rfl) fun D σ H ⟨A, G, S, g, s, p⟩ => ?_
  simp only [evS] at p
  refine (subS (rep1 := Rep X.K fa) g s p).mono fun v H1 ⟨A1, a, S1, e1, s1, r1, p1⟩ => ?_
  split at p1
  · rename_i G2 hG
    exact gT_run r1 hG (g.mono e1) fun σ2 g2 _ => p1 σ2 H1 A1 Ext.refl s1 g2
  · exact p1.elim
/-- a[i] = v: a list, or a dict whose keys are tuples -/
def rSetX (K : PySem.W.Frag) (fa : Fa) : V → V → V → Hp → (Hp → Prop) → Prop := fun o i v H Q => rSetL o i v H Q ∨
  (∃ A S n b dv kvs, SRel K fa A H S ∧ Rep K fa A H o (.loc n) ∧ Rep K fa A H i b ∧ Rep K fa A H v dv ∧ S[n]? = some (.dct kvs) ∧ keyOk b = true ∧ kvs.length < lineN ∧ ∀ H', Ext A H A H' → SRel K fa A H' (S.set n (.dct (dput kvs b dv))) → Q H') ∨
  ∃ A S n z dv kvs, SRel K fa A H S ∧ Rep K fa A H o (.loc n) ∧ Rep K fa A H i (.str z) ∧ Rep K fa A H v dv ∧ S[n]? = some (.dks false kvs) ∧ kvs.length < lineN ∧ ∀ H', Ext A H A H' → SRel K fa A H' (S.set n (.dks false (sput kvs z dv))) → Q H'
theorem set_X (hu : X.A.units + 200 < cLine) (hP : fa.P = X.prog) (hw : fa.w = X.w) : PSet X (rSetX X.K fa) := by
  intro pins s σ H o i v ov iv u Q I ro ri rv h
  rcases h with h | ⟨A, S, n, b, dv, kvs, sr, ra, rb, rd, hn, hk, hl, q⟩ | ⟨A, S, n, z, dv, kvs, sr, ra, rb, rd, hn, hl, q⟩
  · exact set_list pins s σ H o i v ov iv u Q I ro ri rv h
  · exact dct_set hu hP hw I sr ro ri rv ra rb rd hn hk hl q
  · exact dks_set hu I sr ro ri rv ra rb rd hn hl q
theorem t_setI {o i e : E} {pe pi q : Expr} {p2 p : Pos} (hg : GoodS T fa ca k X) (tk : Takes X W) (h : mS T X.N X.env.scope (.setI o i e) (.Assign [.Subscript pe pi p2] q p) = true) : PS X (.Assign [.Subscript pe pi p2] q p) (tsv X.K fa ca (evS (callN T.fn k) (.setI o i e)) W) := by
  simp only [mS, Bool.and_eq_true] at h
  obtain ⟨h0, hp, h1, h2, h3⟩ := h
  have hpg := pg_sub (pos := p2) (sE o X W pe hg.toGood tk h1).1 (sE i X W pi hg.toGood tk h2).1 (set_X (fa := fa) (room200 hg.room) hg.top.prog hg.top.world) (ha := fun v => by cases pi <;> first | rfl | (cases hp; done))
  refine PS_of (ps_asg (sE e X W q hg.toGood tk h3).1 hpg (by cases q <;> rfl) (by cases q <;> rfl) rfl) fun D σ H ⟨A, G, S, g, s, p⟩ => ?_
  simp only [evS] at p
  refine (subS (rep1 := Rep X.K fa) g s p).mono fun v H1 ⟨A1, a, S1, e1, s1, r1, p1⟩ => ?_
  refine (subS (rep1 := Rep X.K fa) (g.mono e1) s1 p1).mono fun x H2 ⟨A2, b, S2, e2, s2, r2, p2⟩ => ?_
  refine (subS (rep1 := Rep X.K fa) ((g.mono e1).mono e2) s2 p2).mono fun y H3 ⟨A3, c, S3, e3, s3, r3, p3⟩ => ?_
  split at p3
  · rename_i S4 hS
    unfold setItemD at hS
    split at hS
    · rename_i n kx q3
      split at hS
      · rename_i ds hn
        obtain ⟨jx, hj, rfl⟩ := Option.map_eq_some_iff.mp hS
        have r2' := Rep.mono e3 _ _ r2
        obtain ⟨l, xs, rfl, hl, rl⟩ := listOf_rep s3 r2' (by simp only [listOf, hn]; rfl)
        cases r3
        cases r2' with
        | loc m =>
          have hj' : ixN xs.length kx = some jx := by rw [rl.length]; exact hj
          have r1' := Rep.mono e3 _ _ (Rep.mono e2 _ _ r1)
          have ew : Ext A3 H3 A3 (upd H3 l (.lst (xs.set jx v))) := Ext.wrote (List.mem_of_getElem? m) (NF.lst hl)
          exact .inl ⟨l, xs, kx, jx, rfl, rfl, hl, hj', p3 σ _ A3 ew (s3.wrote m (rl.set r1' jx)) (((g.mono e1).mono e2).mono e3 |>.mono ew)⟩
      · cases hS
    · rename_i n kx q3
      split at hS
      · rename_i kvs hn
        split at hS
        · rename_i hc
          cases hS
          simp only [Bool.and_eq_true, decide_eq_true_eq] at hc
          exact .inr <| .inl ⟨A3, S3, n, _, a, kvs, s3, Rep.mono e3 _ _ r2, r3, Rep.mono e3 _ _ (Rep.mono e2 _ _ r1), hn, hc.1, hc.2, fun H' ew sw => p3 σ H' A3 ew sw (((g.mono e1).mono e2).mono e3 |>.mono ew)⟩
        · cases hS
      · cases hS
    · rename_i n z q3
      split at hS
      · rename_i kvs hn
        split at hS
        · rename_i hc
          cases hS
          exact .inr <| .inr ⟨A3, S3, n, z, a, kvs, s3, Rep.mono e3 _ _ r2, r3, Rep.mono e3 _ _ (Rep.mono e2 _ _ r1), hn, hc, fun H' ew sw => p3 σ H' A3 ew sw (((g.mono e1).mono e2).mono e3 |>.mono ew)⟩
        · cases hS
      · cases hS
    · cases hS
  · exact p3.elim
theorem t_app {o e : E} {pe q : Expr} {at_ : Str} {ap cp p : Pos} (hg : GoodS T fa ca k X) (tk : Takes X W) (h : mS T X.N X.env.scope (.app o e) (.Expr (.Call (.Attribute pe at_ ap) [q] [] cp) p) = true) : PS X (.Expr (.Call (.Attribute pe at_ ap) [q] [] cp) p) (tsv X.K fa ca (evS (callN T.fn k) (.app o e)) W) := by
  simp only [mS, Bool.and_eq_true, decide_eq_true_eq] at h
  obtain ⟨rfl, h1, h2, h3, h4, h5⟩ := h
  have pe1 := pe_bm PySem.F.plainAttrs_list PySem.F.slot_list_append PySem.F.type_list_append mt_append (sE o X W pe hg.toGood tk h4).1 (pa_cons (sE e X W q hg.toGood tk h5).1 pa_nil (plain_star h3 _ _)) (apos := ap) (cpos := cp) (baseOk_ok h2)
    (by rw [plain_star h3]; rfl) h1 (plain_star h3 _ _) rfl
  refine PS_of (ps_expr pe1 (noComp_ok rfl)) fun D σ H ⟨A, G, S, g, s, p⟩ => ?_
  simp only [evS] at p
  refine (subS (rep1 := Rep X.K fa) g s p).mono fun v H1 ⟨A1, a, S1, e1, s1, r1, p1⟩ => ?_
  split at p1
  case isFalse => exact p1.elim
  rename_i hls
  have ty : tyV X.K "list" v H1 := by
    obtain ⟨ds, hd⟩ := Option.isSome_iff_exists.mp hls
    obtain ⟨l, xs, rfl, hl, rl⟩ := listOf_rep s1 r1 hd
    exact Or.inl ⟨rfl, _, Or.inl (Or.inl hl)⟩
  refine ⟨ty, (subS (rep1 := Rep X.K fa) (g.mono e1) s1 p1).mono fun x H2 ⟨A2, b, S2, e2, s2, r2, p2⟩ => ?_⟩
  split at p2
  · rename_i S4 hS
    unfold appD at hS
    split at hS
    · rename_i n
      split at hS
      · rename_i ds hn
        split at hS
        · rename_i hz
          cases hS
          have r1' := Rep.mono e2 _ _ r1
          obtain ⟨l, xs, rfl, hl, rl⟩ := listOf_rep s2 r1' (by simp only [listOf, hn]; rfl)
          cases r1' with
          | loc m =>
            have ew : Ext A2 H2 A2 (upd H2 l (.lst (xs ++ [x]))) := Ext.wrote (List.mem_of_getElem? m) (NF.lst hl)
            exact ⟨l, xs, x, rfl, rfl, hl, by rw [rl.length, ← line_eq]; exact hz, p2 σ _ A2 ew (s2.wrote m (rl.append (.cons r2 .nil))) ((g.mono e1).mono e2 |>.mono ew)⟩
        · cases hS
      · cases hS
    · cases hS
  · exact p2.elim


theorem fm_all {α β : Type} {f : α → Option β} : ∀ {l : List α}, (l.filterMap f).length = l.length → l.map f = (l.filterMap f).map some
  | [], _ => rfl
  | a :: l, h => by
    have hle := List.length_filterMap_le f l
    cases hf : f a with
    | none => rw [List.filterMap_cons_none hf, List.length_cons] at h; omega
    | some b =>
      rw [List.filterMap_cons_some hf, List.length_cons, List.length_cons] at h
      rw [List.filterMap_cons_some hf, List.map_cons, List.map_cons, hf, fm_all (by omega)]
theorem swN_all {sc : Scope} {ts : List Expr} (h : (swN sc ts).length = ts.length) : ∃ f : Expr → Option Str, ts.map f = (swN sc ts).map some ∧ ∀ x px y, f (.Name x px) = some y → y = x ∧ sc.names.lookup x = some .local := by
  refine ⟨_, fm_all h, fun x px y e => ?_⟩
  dsimp only at e
  split at e
  · rename_i c
    cases e
    simp only [Bool.and_eq_true, beq_iff_eq] at c
    exact ⟨rfl, c.1⟩
  · cases e

theorem mNames_len {N : List Str} {ok : Str → Bool} : ∀ {is : List Nat} {ts : List Expr}, mNames N ok is ts = true → is.length = ts.length
  | [], [], _ => rfl
  | _ :: is, t :: ts, h => by
    cases t <;> simp only [mNames] at h <;> first | (cases h; done) | skip
    simp only [Bool.and_eq_true] at h
    simp only [List.length_cons, mNames_len h.2.2]
  | [], _ :: _, h => by simp only [mNames] at h; cases h
  | _ :: _, [], h => by simp only [mNames] at h; cases h
theorem mNames_cons {N : List Str} {ok : Str → Bool} {i : Nat} {is : List Nat} {t : Expr} {ts : List Expr} (h : mNames N ok (i :: is) (t :: ts) = true) : ∃ x px, t = .Name x px ∧ N[i]? = some x ∧ mNames N ok is ts = true := by
  cases t <;> simp only [mNames] at h <;> first | (cases h; done) | skip
  simp only [Bool.and_eq_true, decide_eq_true_eq] at h
  exact ⟨_, _, rfl, h.1, h.2.2⟩
theorem len2 {α : Type} {l : List α} (h : l.length = 2) : ∃ a b, l = [a, b] := by
  match l, h with
  | [a, b], _ => exact ⟨a, b, rfl⟩
theorem len3 {α : Type} {l : List α} (h : l.length = 3) : ∃ a b c, l = [a, b, c] := by
  match l, h with
  | [a, b, c], _ => exact ⟨a, b, c, rfl⟩
theorem t_par {is : List Nat} {es : Es} {ts vs : List Expr} {j j2 : Nat} {p2 p3 p : Pos} (hg : GoodS T fa ca k X) (tk : Takes X W) (h : mS T X.N X.env.scope (.par is es) (.Assign [.Tuple ts j p2] (.Tuple vs j2 p3) p) = true) : PS X (.Assign [.Tuple ts j p2] (.Tuple vs j2 p3) p) (tsv X.K fa ca (evS (callN T.fn k) (.par is es)) W) := by
  simp only [mS, Bool.and_eq_true, decide_eq_true_eq] at h
  obtain ⟨h1, h2, h3, h4⟩ := h
  have hsw := swYes_ok (k := j) (k2 := j2) (p := p2) (p2 := p3) hg.blk h3
  have pa := sEs es X W vs hg.toGood tk h4
  have hlen : (swN X.env.scope ts).length = ts.length ∧ vs.length = ts.length ∧ (ts.length = 2 ∨ ts.length = 3) := by
    unfold swYes at h3
    simp only [Bool.and_eq_true, Bool.or_eq_true, beq_iff_eq] at h3
    exact ⟨h3.2.2.2.1, h3.2.1, h3.1⟩
  obtain ⟨hl, hv, hn⟩ := hlen
  obtain ⟨f, hf, hx⟩ := swN_all hl
  have hi := mNames_len h1
  rcases hn with hn | hn
  · obtain ⟨t1, t2, rfl⟩ := len2 hn
    obtain ⟨i, j, rfl⟩ := len2 (hi.trans hn)
    obtain ⟨a, b, rfl⟩ := len2 (hv.trans hn)
    obtain ⟨x, px, rfl, a1, h1⟩ := mNames_cons h1
    obtain ⟨y, py, rfl, a3, _⟩ := mNames_cons h1
    obtain ⟨u, v, e⟩ := len2 hl
    rw [e] at hf hsw
    simp only [List.map_cons, List.map_nil, List.cons.injEq, and_true] at hf
    obtain ⟨rfl, lx⟩ := hx _ _ _ hf.1
    obtain ⟨rfl, ly⟩ := hx _ _ _ hf.2
    have hij : i ≠ j := by simpa using h2
    refine PS_of (ps_par hg.calm hg.nd a1 a3 hij lx ly pa hsw) fun D σ H ⟨A, G, S, g, s, p⟩ => ?_
    simp only [evS] at p
    refine (subS (rep1 := RepL X.K fa) g s p).mono fun xs H1 ⟨A1, ds, S1, e1, s1, r1, p1⟩ => ?_
    split at p1
    case h_2 => exact p1.elim
    rename_i G2 hG
    match ds, xs, r1, hG with
    | [d1, d2], [v1, v2], .cons q1 (.cons q2 .nil), hG =>
      cases hG
      exact ⟨v1, v2, rfl, p1 _ H1 A1 Ext.refl s1 (((g.mono e1).set q1).set q2)⟩
  · obtain ⟨t1, t2, t3, rfl⟩ := len3 hn
    obtain ⟨i, j, l, rfl⟩ := len3 (hi.trans hn)
    obtain ⟨a, b, c, rfl⟩ := len3 (hv.trans hn)
    obtain ⟨x, px, rfl, a1, h1⟩ := mNames_cons h1
    obtain ⟨y, py, rfl, a3, h1⟩ := mNames_cons h1
    obtain ⟨z, pz, rfl, a5, _⟩ := mNames_cons h1
    obtain ⟨u, v, w, e⟩ := len3 hl
    rw [e] at hf hsw
    simp only [List.map_cons, List.map_nil, List.cons.injEq, and_true] at hf
    obtain ⟨rfl, lx⟩ := hx _ _ _ hf.1
    obtain ⟨rfl, ly⟩ := hx _ _ _ hf.2.1
    obtain ⟨rfl, lz⟩ := hx _ _ _ hf.2.2
    have hij : i ≠ j ∧ i ≠ l ∧ j ≠ l := by
      simp only [List.nodup_cons, List.mem_cons, List.not_mem_nil, or_false, not_or, not_false_eq_true, List.nodup_nil, and_true] at h2
      exact ⟨h2.1.1, h2.1.2, h2.2⟩
    refine PS_of (ps_par3 hg.calm hg.nd a1 a3 a5 hij.1 hij.2.1 hij.2.2 lx ly lz pa hsw) fun D σ H ⟨A, G, S, g, s, p⟩ => ?_
    simp only [evS] at p
    refine (subS (rep1 := RepL X.K fa) g s p).mono fun xs H1 ⟨A1, ds, S1, e1, s1, r1, p1⟩ => ?_
    split at p1
    case h_2 => exact p1.elim
    rename_i G2 hG
    match ds, xs, r1, hG with
    | [d1, d2, d3], [v1, v2, v3], .cons q1 (.cons q2 (.cons q3 .nil)), hG =>
      cases hG
      exact ⟨v1, v2, v3, rfl, p1 _ H1 A1 Ext.refl s1 ((((g.mono e1).set q1).set q2).set q3)⟩
theorem Car.trans (c : Car A H A1 H1) (c2 : Car A1 H1 A2 H2) : Car A H A2 H2 := ⟨fun n a m => c2.pl n a (c.pl n a m), fun a o n1 n2 h => let ⟨h1, m1, m2⟩ := c.keep a o n1 n2 h; c2.keep a o m1 m2 h1, fun a o u h => c2.frz a o u (c.frz a o u h)⟩
theorem Car.refl : Car A H A H := ⟨fun _ _ m => m, fun _ _ n1 n2 h => ⟨h, n1, n2⟩, fun _ _ _ h => h⟩
theorem t_whl {c : E} {b : Ss} {q : Expr} {xs : List Stmt} {p : Pos} (hg : GoodS T fa ca k X) (hc : PT X q (tevT X.K fa ca (evE (callN T.fn k) c) W)) (hb : PSs X xs (tsv X.K fa ca (evSs (callN T.fn k) b) W)) : PS X (.While q xs [] p) (tsv X.K fa ca (evS (callN T.fn k) (.whl c b)) W) := by
  refine PS_of (ps_while hg.own hc hb) fun D σ H ⟨A, G, S, g, s, pp⟩ => ?_
  simp only [evS] at pp
  refine ⟨fun m σ H => ∃ A G S, GRel X.K fa A H σ G ∧ SRel X.K fa A H S ∧ SPost X.K fa ca (whlGo (evE (callN T.fn k) c) (evSs (callN T.fn k) b) m G S) A H D W, ⟨_, A, G, S, g, s, pp⟩, ?_⟩
  rintro m σ H ⟨A, G, S, g, s, p1⟩
  cases m with
  | zero => exact p1.elim
  | succ n =>
    have e : whlGo (evE (callN T.fn k) c) (evSs (callN T.fn k) b) (n + 1) G S = (R.toB (evE (callN T.fn k) c G S)).toS G fun t S1 => if t = true then (match evSs (callN T.fn k) b G S1 with
      | .fl .nx G2 S2 => whlGo (evE (callN T.fn k) c) (evSs (callN T.fn k) b) n G2 S2
      | .fl .brk G2 S2 => .fl .nx G2 S2
      | r => r) else .fl .nx G S1 := by
      simp only [whlGo]
      cases evE (callN T.fn k) c G S with
      | ok d S1 => cases d with
        | bl t => cases t <;> rfl
        | _ => rfl
      | exc x S1 => rfl
      | bad => rfl
    rw [e] at p1
    refine (subS (rep1 := RepB) (m1 := fun G S => R.toB (evE (callN T.fn k) c G S)) g s p1).mono fun t H1 ⟨A1, t', S1, e1, s1, r1, p2⟩ => ?_
    subst r1
    cases t with
    | false =>
      rw [if_neg Bool.false_ne_true] at p2 ⊢
      exact p2 σ H1 A1 Ext.refl s1 (g.mono e1)
    | true =>
      rw [if_pos rfl] at p2 ⊢
      refine ⟨fun σ' H' => ∃ A G S, GRel X.K fa A H' σ' G ∧ SRel X.K fa A H' S ∧ SPost X.K fa ca (whlGo (evE (callN T.fn k) c) (evSs (callN T.fn k) b) n G S) A H' D W, fun σ' H' h => ⟨n, Nat.lt_succ_self n, h⟩, A1, G, S1, g.mono e1, s1, ?_⟩
      cases hr : evSs (callN T.fn k) b G S1 with
      | bad => rw [hr] at p2; exact p2
      | exc x G2 S2 => rw [hr] at p2; exact p2
      | fl f G2 S2 =>
        rw [hr] at p2
        cases f with
        | nx => exact fun σ' H' A' e' s' g' => ⟨A', G2, S2, g', s', SPost.mono p2 e'⟩
        | brk => exact p2
        | ret d => exact p2
/-- the run of a for over what is served -/
theorem for_run {tg : Tg} {b : MS} {src : Src} {A1 : Pl} {H1 : Hp} {S1 : Store} {J : L2.It} {D : Ends} {g : TG} (hgt : g = gT K tg) (sv : Serves K fa A1 H1 J src) (g1 : GRel K fa A1 H1 σ G) (s1 : SRel K fa A1 H1 S1) (p1 : SPost K fa ca (forGo tg b src src.items G S1) A1 H1 D W) :
    ∃ Wv : Nat → Nat → L2.St → Hp → Prop, (∃ m, Wv 0 m σ H1) ∧ ∀ i m σ H, Wv i m σ H →
      (J.stop i H ∧ D.nx σ H) ∨ (J.go i H ∧ ∃ N : L2.St → Hp → Prop, (∀ σ' H', N σ' H' → ∃ m', m' < m ∧ Wv (i + 1) m' σ' H') ∧ ∀ x H', J.yld i H x H' → g x σ H' fun σ2 H2 => tsv K fa ca b W { D with nx := N, ct := N, bk := D.nx } σ2 H2) := by
  subst hgt
  refine ⟨fun i m σ H => i ≤ src.items.length ∧ m = src.items.length - i ∧ ∃ A G S, Car A1 H1 A H ∧ GRel K fa A H σ G ∧ SRel K fa A H S ∧ SPost K fa ca (forGo tg b src (src.items.drop i) G S) A H D W,
    ⟨_, Nat.zero_le _, rfl, A1, G, S1, Car.refl, g1, s1, p1⟩, ?_⟩
  rintro i m σ H ⟨hi, rfl, A, G, S, cr, g, s, p2⟩
  by_cases hlt : i < src.items.length
  · rw [List.drop_eq_getElem_cons hlt] at p2
    simp only [forGo] at p2
    split at p2
    case isFalse => exact p2.elim
    rename_i hst
    obtain ⟨sv1, _⟩ := sv A H S cr s hst
    obtain ⟨go, yl⟩ := sv1 i _ (List.getElem?_eq_getElem hlt)
    refine .inr ⟨go, fun σ' H' => ∃ A G S, Car A1 H1 A H' ∧ GRel K fa A H' σ' G ∧ SRel K fa A H' S ∧ SPost K fa ca (forGo tg b src (src.items.drop (i + 1)) G S) A H' D W, fun σ' H' h => ⟨_, by omega, hlt, rfl, h⟩, fun x H' y => ?_⟩
    obtain ⟨ey, sy, rx⟩ := yl x H' y
    split at p2
    · exact p2.elim
    rename_i G2 hG
    refine gT_run rx hG (g.mono ey) fun σ2 g2 hw => ⟨A, G2, S, g2, sy, ?_⟩
    replace p2 := SPost.mono p2 ey
    replace cr := cr.trans ey.car
    cases hr : b G2 S with
    | bad => rw [hr] at p2; exact p2
    | exc x G3 S3 => rw [hr] at p2; exact p2
    | fl f G3 S3 =>
      rw [hr] at p2
      cases f with
      | nx => exact fun σ' H' A' e' s' g' => ⟨A', G3, S3, cr.trans e'.car, g', s', SPost.mono p2 e'⟩
      | brk => exact p2
      | ret d => exact p2
  · have e : i = src.items.length := by omega
    subst e
    rw [List.drop_eq_nil_of_le (Nat.le_refl _)] at p2
    simp only [forGo] at p2
    split at p2
    · rename_i hst
      obtain ⟨_, st⟩ := sv A H S cr s hst
      exact .inl ⟨st _ (Nat.le_refl _), p2 σ H A Ext.refl s g⟩
    · exact p2.elim
theorem t_for {tg : Tg} {it : NW.It} {b : Ss} {t i : Expr} {xs : List Stmt} {p : Pos} (hg : GoodS T fa ca k X) (hi : PI X t i (tevI X.K fa ca (evI (callN T.fn k) it) W)) (ht : PG X t (gT X.K tg)) (hb : PSs X xs (tsv X.K fa ca (evSs (callN T.fn k) b) W)) (hs : ∀ x, foldedSetIterable i X.env x = pure x) :
    PS X (.For t i xs [] p) (tsv X.K fa ca (evS (callN T.fn k) (.for_ tg it b)) W) := by
  refine PS_of (ps_for hg.own hg.calm hi ht hb hs) fun D σ H ⟨A, G, S, g, s, pp⟩ => ?_
  simp only [evS] at pp
  refine (subS (rep1 := Serves X.K fa) g s pp).mono fun J H1 ⟨A1, src, S1, e1, s1, sv, p1⟩ => ?_
  exact for_run rfl sv (g.mono e1) s1 p1
/-- a place is let go from its walk -/
theorem SPost.unlock {f : Fl} {G2 : Env} {S2 : Store} {n : Nat} {d : Addr} {od : Obj} {es : List (Key × V)} {kvs2 : List (Str × NW.D)} {D : Ends} {H0 : Hp} {A0 : Pl} (hd : H0 d = some (.dK es)) (hpl : A0.pl[n]? = some d) (h2 : S2[n]? = some (.dks true kvs2))
    (p : SPost K fa ca (.fl f G2 (S2.set n (.dks false kvs2))) A0 H0 D W) : SPost K fa ca (.fl f G2 S2) A0 (upd H0 d (.frz od (.dK es)))
      ⟨fun σ' H' => H' d = some (.frz od (.dK es)) ∧ D.nx σ' (upd H' d (.dK es)), fun v H' => H' d = some (.frz od (.dK es)) ∧ D.rt v (upd H' d (.dK es)), fun σ' H' => H' d = some (.frz od (.dK es)) ∧ D.bk σ' (upd H' d (.dK es)), fun σ' H' => H' d = some (.frz od (.dK es)) ∧ D.ct σ' (upd H' d (.dK es))⟩ W := by
  have key : ∀ {H' : Hp} {A' : Pl}, Ext A0 (upd H0 d (.frz od (.dK es))) A' H' → SRel K fa A' H' S2 → H' d = some (.frz od (.dK es)) ∧ Ext A0 H0 A' (upd H' d (.dK es)) ∧ SRel K fa A' (upd H' d (.dK es)) (S2.set n (.dks false kvs2)) ∧ d ∈ A'.pl := fun {H' A'} e s => by
    have hf := e.frz d od (.dK es) upd_same
    have hp' : A'.pl[n]? = some d := e.at hpl
    have hm : d ∈ A'.pl := List.mem_of_getElem? hp'
    have hm0 : d ∈ A0.pl := List.mem_of_getElem? hpl
    refine ⟨hf, ⟨e.pre, e.fb, fun b h1 h2 => ?_, fun a o h1 h2 => ?_, fun a o u h => ?_⟩, ?_, hm⟩
    · have := e.new b h1 h2
      rwa [upd_ne (by rintro rfl; exact h2 hm0)] at this
    · have ne : a ≠ d := by rintro rfl; exact h1 hm0
      rw [upd_ne ne]
      exact e.keep a o h1 (by rw [upd_ne ne]; exact h2)
    · have ne : a ≠ d := by rintro rfl; rw [hd] at h; cases h
      rw [upd_ne ne]
      exact e.frz a o u (by rw [upd_ne ne]; exact h)
    · obtain ⟨a, ea, ro⟩ := s.obj n _ h2
      rw [hp'] at ea; cases ea
      cases ro with
      | dks q r =>
        obtain ⟨od', q⟩ := q
        rw [hf] at q
        cases q
        exact s.wroteO hp' (.dks (f := false) (by show (upd H' d _) d = _; exact upd_same) (RepS.imp (fun d v => Rep.carry (A := A') (A1 := A') (fun _ _ m => m) (wrote_rep hm) d v) r))
  cases f with
  | nx => exact fun σ' H' A' e s g => let ⟨h1, h2, h3, h4⟩ := key e s; ⟨h1, p σ' _ A' h2 h3 ⟨g.1, fun i d h => let ⟨v, g1, g2⟩ := g.2 i d h; ⟨v, g1, Rep.carry (A := A') (A1 := A') (fun _ _ m => m) (wrote_rep h4) d v g2⟩⟩⟩
  | brk => exact fun σ' H' A' e s g => let ⟨h1, h2, h3, h4⟩ := key e s; ⟨h1, p σ' _ A' h2 h3 ⟨g.1, fun i d h => let ⟨v, g1, g2⟩ := g.2 i d h; ⟨v, g1, Rep.carry (A := A') (A1 := A') (fun _ _ m => m) (wrote_rep h4) d v g2⟩⟩⟩
  | ret d => exact fun v H' A' e s r => let ⟨h1, h2, h3, h4⟩ := key e s; ⟨h1, p v _ A' h2 h3 (Rep.carry (A := A') (A1 := A') (fun _ _ m => m) (wrote_rep h4) d v r)⟩
theorem t_forK {tg : Tg} {i : Nat} {b : Ss} {t : Expr} {x : Str} {xs : List Stmt} {p p2 : Pos} (hg : GoodS T fa ca k X) (hN : X.N[i]? = some x) (hv : vis X.env.scope x = true) (ht : PG X t (gT X.K tg)) (hb : PSs X xs (tsv X.K fa ca (evSs (callN T.fn k) b) W)) :
    PS X (.For t (.Name x p2) xs [] p) (tsv X.K fa ca (evS (callN T.fn k) (.forK tg i b)) W) := by
  obtain ⟨v1, v2⟩ := vis_of hv
  obtain ⟨n1, n2, n3⟩ := okN_of v2
  refine PS_of (ps_lock (ps_for hg.own hg.calm (pi_keys (pe_var hN v1 n1 n2)) ht hb)) fun D σ H ⟨A, G, S, g, s, pp⟩ => ?_
  simp only [evS] at pp
  split at pp
  case h_2 => exact pp.elim
  rename_i n hGi
  split at pp
  case h_2 => exact pp.elim
  rename_i kvs hn
  obtain ⟨v, hv1, rv⟩ := g.2 i _ hGi
  obtain ⟨m, a, f, es, rfl, e0, hpl, hn', hH, r⟩ := dks_place s rv (kvs := kvs) (by simp only [dksOf, hn])
  cases e0
  rw [hn] at hn'; cases hn'
  have hH : H a = some (.dK es) := hH
  have hm : a ∈ A.pl := List.mem_of_getElem? hpl
  refine ⟨a, .dK es, hH, True.intro, fun od => ?_⟩
  have cr : ∀ d v, Rep X.K fa A H v d → Rep X.K fa A (upd H a (.frz od (.dK es))) v d := fun d v => Rep.carry (A := A) (A1 := A) (fun _ _ m => m) (wrote_rep hm) d v
  have s1 : SRel X.K fa A (upd H a (.frz od (.dK es))) (S.set n (.dks true kvs)) := s.wroteO hpl (.dks (f := true) ⟨od, upd_same⟩ (RepS.imp cr r))
  have g1 : GRel X.K fa A (upd H a (.frz od (.dK es))) σ G := ⟨g.1, fun i d h => let ⟨v, g1, g2⟩ := g.2 i d h; ⟨v, g1, cr _ _ g2⟩⟩
  refine ⟨.ref a, hv1, a, od, rfl, .inl ⟨es, upd_same, ?_⟩⟩
  refine for_run (G := G) (S1 := S.set n (.dks true kvs)) (src := ⟨kvs.map fun p => .str p.1, none⟩) (b := evSs (callN T.fn k) b) rfl (keys_serves upd_same (RepS.imp cr r)) g1 s1 ?_
  cases hr : forGo tg (evSs (callN T.fn k) b) ⟨kvs.map fun p => .str p.1, none⟩ (kvs.map fun p => .str p.1) G (S.set n (.dks true kvs)) with
  | bad => rw [hr] at pp; exact pp.elim
  | exc x G2 S2 =>
    rw [hr] at pp
    exact SPost.mono (D := D) pp (Ext.wrote hm (NF.dK hH))
  | fl f G2 S2 =>
    rw [hr] at pp
    replace pp : SPost X.K fa ca (match S2[n]? with
      | some (.dks true kvs2) => .fl f G2 (S2.set n (.dks false kvs2))
      | _ => .bad) A H D W := pp
    split at pp
    case h_2 => exact pp.elim
    rename_i kvs2 h2
    exact SPost.unlock hH hpl h2 pp
/-! ### raise, try -/
theorem t_raise {c : Nat} {m x : Str} {j : Nat} {p p2 p3 p4 : Pos} (hg : GoodS T fa ca k X) (tk : Takes X W) (hx : gl X.env.scope x = true) (hc : T.xc c = some x) : PS X (.Raise (some (.Call (.Name x p) [.Constant (.str m) j p2] [] p3)) none p4) (tsv X.K fa ca (evS (callN T.fn k) (.raise c m)) W) := by
  obtain ⟨g1, g2⟩ := gl_of hx
  obtain ⟨n1, n2, n3⟩ := okN_of g2
  obtain ⟨m1, m2, m3, m4, m5⟩ := hg.top.xcs c x hc
  refine PS_of (ps_raise hg.calm tk (pmk_own PySem.F.excBase_ValueError m2 m1 m3 (raises_own m4 m5) g1 n1)) fun D σ H ⟨A, G, S, g, s, p⟩ => ?_
  simp only [evS] at p
  exact p _ none σ H A Ext.refl s g ⟨⟨hg.top.xrg c x hc, rfl⟩, rfl⟩
/-- an exception whose __init__ keeps its argument -/
theorem t_raiseE {c : Nat} {f x : Str} {e : E} {q : Expr} {p p3 p4 : Pos} (hg : GoodS T fa ca k X) (tk : Takes X W) (hx : gl X.env.scope x = true) (hc : T.xi c = some (x, f)) (hp : plain q = true) (he : PE X q (tev X.K fa ca (evE C e) W)) :
    PS X (.Raise (some (.Call (.Name x p) [q] [] p3)) none p4) (tsv X.K fa ca (evS C (.raiseE c f e)) W) := by
  obtain ⟨g1, g2⟩ := gl_of hx
  obtain ⟨n1, n2, n3⟩ := okN_of g2
  obtain ⟨m1, m2, XI⟩ := hg.top.xis c x f hc
  obtain ⟨fI, fd, ps, hps, i1, i2, i3, F⟩ := XI.fn
  refine PS_of (ps_raise hg.calm tk (pmk_oex (dvs := []) (ds := []) XI.cls i1 i2 F (hg.toGood.rm 2 (by omega)) i3 .nil (fun pins σ H s e s' I c => passAt takes0 σ pins H s e s' I c) g1 m1 (pa_cons he pa_nil (plain_star hp _ _)) n1 (plain_star hp _ _) rfl)) fun D σ H ⟨A, G, S, g, s, pp⟩ => ?_
  simp only [evS] at pp
  refine (subS (rep1 := Rep X.K fa) g s pp).mono fun v H1 ⟨A1, d, S1, e1, s1, r1, p1⟩ => ?_
  refine ⟨by simp, fun a ha => ⟨a, v, rfl, upd_same, fun dx hdx hne => ⟨rfl, dx, [(f, v)], upd_same, ?_, ?_, ?_⟩⟩⟩
  · rw [upd_ne hne, upd_same]
  · rw [upd_ne hne] at hdx; exact hdx
  · rw [upd_ne hne] at hdx
    have eH : upd (del (upd (upd (upd H1 a (exo a (ca c) none)) dx (exd dx [(f, v)])) a (exo a (ca c) (some dx))) a) dx (.xd [(f, v)]) = upd H1 dx (.xd [(f, v)]) := by
      funext b
      by_cases hb : b = dx
      · subst hb; rw [upd_same, upd_same]
      · rw [upd_ne hb, upd_ne hb]
        by_cases hb2 : b = a
        · subst hb2; rw [del_same, ha]
        · rw [del_ne hb2, upd_ne hb2, upd_ne hb, upd_ne hb2]
    rw [eH]
    have el : Ext A1 H1 A1 (upd H1 dx (.xd [(f, v)])) := Ext.laid s1 hdx
    exact p1 _ (some dx) σ _ A1 el (s1.laid hdx) ((g.mono e1).mono el) ⟨⟨m2, rfl⟩, [(f, v)], upd_same, s1.fresh hdx, s1.freshB hdx, rfl, .cons (Rep.mono el _ _ r1) .nil⟩
theorem fs_look {fs : List (Str × V)} {gs : List (Str × NW.D)} {f : Str} {d : NW.D} : fs.map (·.1) = gs.map (·.1) → RepL K fa A H (fs.map (·.2)) (gs.map (·.2)) → gs.lookup f = some d → ∃ v, fs.lookup f = some v ∧ Rep K fa A H v d := by
  induction gs generalizing fs with
  | nil => intro _ _ h; cases h
  | cons q gs ih =>
    intro h1 h2 h3
    cases fs with
    | nil => cases h1
    | cons p fs =>
      simp only [List.map_cons, List.cons.injEq] at h1 h2
      cases h2 with
      | cons r1 r2 =>
        rw [show (q :: gs) = ((q.1, q.2) :: gs) from rfl, List.lookup_cons] at h3
        rw [show (p :: fs) = ((p.1, p.2) :: fs) from rfl, List.lookup_cons, h1.1]
        cases hq : f == q.1 with
        | true => rw [hq] at h3; cases h3; exact ⟨p.2, rfl, r1⟩
        | false => rw [hq] at h3; exact ih h1.2 r2 h3
def tHa (C : Addr) (j : Nat) : Ha → Addr → Value → Option Addr → TS
  | .ret f => fun a cls d D σ H => tXf a cls d C f (fun σ H Q => ∃ v, σ[j]? = some (some v) ∧ Q v H) σ H fun v H1 => D.rt v H1
  | .set i f => fun a cls d D σ H => tXf a cls d C f (fun σ H Q => ∃ v, σ[j]? = some (some v) ∧ Q v H) σ H fun v H1 => D.nx (σ.set i (some v)) H1
theorem ha_ok {n : Str} {j : Nat} {h : Ha} {st : Stmt} {c : Nat} {x : Str} {a : Addr} {oe : Obj} {cls : Value} {d : Option Addr} {pn : List (Addr × Obj)} (hg : GoodS T fa ca k X) (hn : okN n = true) (hj : X.N[j]? = some n) (hl : X.env.scope.names.lookup n = some .local) (hc : T.xi c = some (x, h.fld)) (hm : mHa X.N X.env.scope n j h st = true)
    (hz : Zc cls d oe) (hf : ∃ vs, oe.data = .fields vs) : PSs (X.suite a ((a, oe) :: pn)) [st] (tHa (ca c) j h a cls d) := by
  obtain ⟨m1, m2, XI⟩ := hg.top.xis c x _ hc
  obtain ⟨n1, n2, n3⟩ := okN_of hn
  have fld : ∀ {p p2 : Pos}, PE (X.suite a ((a, oe) :: pn)) (.Attribute (.Name n p) h.fld p2) (tXf a cls d (ca c) h.fld (fun σ H Q => ∃ v, σ[j]? = some (some v) ∧ Q v H)) := fun {p p2} =>
    pe_xf XI.fld XI.no hz hf (PE_of (pe_var (X := X.suite a ((a, oe) :: pn)) hj (.inl hl) n1 n2) fun σ H Q q => q)
  unfold mHa at hm
  split at hm
  · obtain ⟨rfl, rfl⟩ := of_decide_eq_true hm
    exact PSs_of (pss_cons (ps_ret fld) pss_nil) fun D σ H q => q
  · simp only [Bool.and_eq_true, decide_eq_true_eq] at hm
    obtain ⟨⟨rfl, rfl, hi⟩, hy⟩ := hm
    exact PSs_of (pss_cons (ps_set (X := X.suite a ((a, oe) :: pn)) hg.nd hi (locS hy) fld rfl (.inl (hg.fn _))) pss_nil) fun D σ H q => q
  · cases hm
theorem grel_gone {i j : Nat} {v w : V} {d : NW.D} (g : GRel K fa A H σ G) (r : Rep K fa A H v d) : GRel K fa A H (((σ.set j (some w)).set i (some v)).set j none) ((setV G i d).set j none) := by
  refine ⟨by simp [setV, g.1], fun m e h => ?_⟩
  unfold setV at h
  by_cases hm : j = m
  · subst hm
    rw [List.getElem?_set_self' ] at h
    cases hq : (G.set i (some d))[j]? with
    | none => rw [hq] at h; cases h
    | some o => rw [hq] at h; cases h
  · rw [List.getElem?_set_ne hm] at h
    rw [List.getElem?_set_ne hm]
    by_cases hi : i = m
    · subst hi
      by_cases hl : i < G.length
      · rw [List.getElem?_set_self hl] at h
        cases h
        exact ⟨v, by rw [List.getElem?_set_self (by rw [List.length_set, ← g.1]; exact hl)], r⟩
      · rw [List.getElem?_eq_none (by simpa using hl)] at h; cases h
    · rw [List.getElem?_set_ne hi] at h
      rw [List.getElem?_set_ne hi, List.getElem?_set_ne hm]
      exact g.2 m e h
theorem t_tryAs {b : Ss} {c j : Nat} {h : Ha} {x n : Str} {xs : List Stmt} {st : Stmt} {p p2 p3 : Pos} (hg : GoodS T fa ca k X) (tk : Takes X W) (hx : gl X.env.scope x = true) (hn : okN n = true) (hj : X.N[j]? = some n) (hl : X.env.scope.names.lookup n = some .local) (hc : T.xi c = some (x, h.fld)) (hm : mHa X.N X.env.scope n j h st = true)
    (hb : ∀ (W' : WX) (pn : List (Addr × Obj)) (xe : Value → Shared → Prop), Takes (X.tr pn xe) W' → PassesOwn (model X.prog X.w) X.A X.env xe → PSs (X.tr pn xe) xs (tsv X.K fa ca (evSs (callN T.fn k) b) W')) :
    PS X (.Try xs [.ExceptHandler (some (.Name x p2)) (some n) [st] p3] [] [] p) (tsv X.K fa ca (evS (callN T.fn k) (.tryAs b c j h)) W) := by
  obtain ⟨g1, g2⟩ := gl_of hx
  obtain ⟨n1, n2, n3⟩ := okN_of g2
  obtain ⟨m1, m2, XI⟩ := hg.top.xis c x _ hc
  refine PS_of (ps_try_as hg.stk hg.frm hg.nd hj hl ⟨g1, n1, .inl m1⟩ tk hb (fun a oe cls d pn hz hf => ha_ok hg hn hj hl hc hm hz hf)) fun D σ H ⟨A, G, S, g, s, pp⟩ => ⟨A, G, S, g, s, ?_⟩
  simp only [evS] at pp
  cases hr : evSs (callN T.fn k) b G S with
  | bad => rw [hr] at pp; exact pp
  | fl f G2 S2 => rw [hr] at pp; cases f <;> exact pp
  | exc y G2 S2 =>
    rw [hr] at pp
    intro cls d σ' H' A' e' s' g' r'
    obtain ⟨⟨rx, rfl⟩, r2⟩ := id r'
    refine ⟨_, hg.top.exm y.cls c x rx (.inr ⟨_, hc⟩), fun hy a ha => ?_, fun hn => ?_⟩
    · have ey : y.cls = c := of_decide_eq_true hy
      replace pp : SPost X.K fa ca (caughtAs c j h y G2 S2) A H D W := pp
      unfold caughtAs at pp
      rw [if_pos ey] at pp
      by_cases hjl : j < G2.length
      case neg => rw [if_neg hjl] at pp; exact pp.elim
      rw [if_pos hjl] at pp
      have hj' : (σ'.set j (some (.ref a)))[j]? = some (some (.ref a)) := List.getElem?_set_self (by rw [← g'.1]; exact hjl)
      cases h with
      | ret f =>
        dsimp only at pp
        cases hf : y.fs.lookup f with
        | none => rw [hf] at pp; exact pp.elim
        | some v =>
          rw [hf] at pp
          cases d with
          | none =>
            replace r2 : y.fs = [] := r2
            rw [r2] at hf; cases hf
          | some dd =>
            obtain ⟨fs, h1, h2, h3, h4, h5⟩ := r2
            obtain ⟨w, hw, rw'⟩ := fs_look h4 h5 hf
            exact ⟨_, hj', rfl, by rw [ey], dd, fs, w, rfl, h1, hw, pp w H' A' e' s' rw'⟩
      | set i f =>
        dsimp only at pp
        cases hf : y.fs.lookup f with
        | none => rw [hf] at pp; exact pp.elim
        | some v =>
          rw [hf] at pp
          cases d with
          | none =>
            replace r2 : y.fs = [] := r2
            rw [r2] at hf; cases hf
          | some dd =>
            obtain ⟨fs, h1, h2, h3, h4, h5⟩ := r2
            obtain ⟨w, hw, rw'⟩ := fs_look h4 h5 hf
            exact ⟨_, hj', rfl, by rw [ey], dd, fs, w, rfl, h1, hw, pp _ H' A' e' s' (grel_gone g' rw')⟩
    · have ey : y.cls ≠ c := of_decide_eq_false hn
      replace pp : SPost X.K fa ca (caughtAs c j h y G2 S2) A H D W := pp
      unfold caughtAs at pp
      rw [if_neg ey] at pp
      exact pp _ d σ' H' A' e' s' g' r'
def tHb : Hb → TS
  | .ret k => fun D _ H => D.rt k.v H
  | .set i k => fun D σ H => D.nx (σ.set i (some k.v)) H
theorem hb_ok {hb : Hb} {st : Stmt} {a : Addr} {pn : List (Addr × Obj)} (hg : GoodS T fa ca k X) (h : mHb X.N X.env.scope hb st = true) : PSs (X.suite a pn) [st] (tHb hb) := by
  unfold mHb at h
  split at h
  · exact PSs_of (pss_cons (ps_ret (pe_kc h).1) pss_nil) fun D σ H q => q
  · simp only [Bool.and_eq_true, decide_eq_true_eq] at h
    exact PSs_of (pss_cons (ps_set (X := X.suite a pn) hg.nd h.1 (locS h.2.1) (pe_kc h.2.2).1 (noComp_ok (pe_kc (X := X) h.2.2).2) (.inl (hg.fn _))) pss_nil) fun D σ H q => q
  · cases h
def hbs (ca : Nat → Addr) (hs : List (Nat × Hb)) : List (Value × (Addr → Value → Option Addr → TS)) := hs.map fun h => (.ref (ca h.1), fun _ _ _ => tHb h.2)
theorem hds_ok (hg : GoodS T fa ca k X) : ∀ {hs : List (Nat × Hb)} {hds : List ExceptHandler}, mHs T X.N X.env.scope hs hds = true → HdsOk X hds (hbs ca hs)
  | [], [], _ => .nil
  | [], _ :: _, h => by simp only [mHs] at h; cases h
  | (c, hb) :: hs, hds, h => by
    unfold mHs at h
    split at h
    · rename_i e1 e2; cases e2
    · rename_i e1
      cases e1
      simp only [Bool.and_eq_true, decide_eq_true_eq] at h
      obtain ⟨h1, h2, h3, h4⟩ := h
      obtain ⟨g1, g2⟩ := gl_of h1
      exact .cons ⟨g1, (okN_of g2).1, .inl (hg.top.xcs _ _ h2).1⟩ (fun a oe cls d pn _ _ => hb_ok hg h3) (hds_ok hg h4)
    · cases h
def caught (hs : List (Nat × Hb)) (x : Xc) (G : Env) (S : Store) : SR := match hs.lookup x.cls with
  | some (.ret c) => .fl (.ret c.d) G S
  | some (.set i c) => .fl .nx (setV G i c.d) S
  | none => .exc x G S
theorem many_run {D : Ends} {x : Xc} {G2 : Env} {S2 : Store} (hg : GoodS T fa ca k X) : ∀ {hs : List (Nat × Hb)} {hds : List ExceptHandler}, mHs T X.N X.env.scope hs hds = true → SPost X.K fa ca (caught hs x G2 S2) A H D W →
    ∀ c d σ' H' A', Ext A H A' H' → SRel X.K fa A' H' S2 → GRel X.K fa A' H' σ' G2 → RepX X.K fa ca A' H' c d x → wMany X.K W D (hbs ca hs) c d σ' H'
  | [], _, _, p => p
  | (c', hb) :: hs, hds, h, p => by
    intro c d σ' H' A' e s g r
    unfold mHs at h
    split at h
    · rename_i e1 e2; cases e2
    · rename_i e1
      cases e1
      simp only [Bool.and_eq_true, decide_eq_true_eq] at h
      obtain ⟨h1, h2, h3, h4⟩ := h
      obtain ⟨⟨rx, rfl⟩, r2⟩ := id r
      refine ⟨_, hg.top.exm x.cls _ _ rx (.inl h2), fun hy a _ => ?_, fun hn => ?_⟩
      · have ex : x.cls = c' := of_decide_eq_true hy
        unfold caught at p
        rw [ex, List.lookup_cons, beq_self_eq_true] at p
        cases hb with
        | ret kc => exact p kc.v H' A' e s (rep_kc kc)
        | set i kc => exact p _ H' A' e s (g.set (rep_kc kc))
      · have ex : x.cls ≠ c' := of_decide_eq_false hn
        refine many_run hg h4 ?_ _ d σ' H' A' e s g r
        unfold caught at p ⊢
        rw [List.lookup_cons, beq_false_of_ne ex] at p
        exact p
    · cases h
theorem t_try {b : Ss} {hs : List (Nat × Hb)} {xs : List Stmt} {hds : List ExceptHandler} {p : Pos} (hg : GoodS T fa ca k X) (tk : Takes X W) (hne : hds.isEmpty = false) (hh : mHs T X.N X.env.scope hs hds = true)
    (hb : ∀ (W' : WX) (pn : List (Addr × Obj)) (xe : Value → Shared → Prop), Takes (X.tr pn xe) W' → PassesOwn (model X.prog X.w) X.A X.env xe → PSs (X.tr pn xe) xs (tsv X.K fa ca (evSs (callN T.fn k) b) W')) : PS X (.Try xs hds [] [] p) (tsv X.K fa ca (evS (callN T.fn k) (.try_ b hs)) W) := by
  cases hds with
  | nil => cases hne
  | cons h₀ hds =>
    refine PS_of (ps_try_many hg.stk hg.frm tk hb (hds_ok hg hh)) fun D σ H ⟨A, G, S, g, s, p⟩ => ⟨A, G, S, g, s, ?_⟩
    simp only [evS] at p
    cases hr : evSs (callN T.fn k) b G S with
    | bad => rw [hr] at p; exact p
    | fl f G2 S2 => rw [hr] at p; cases f <;> exact p
    | exc x G2 S2 =>
      rw [hr] at p
      exact many_run hg hh p
end
end NW
end
section
/- All statements; a def keeps its promise; the program's top. -/
namespace NW
open PySem PySem.Spec L2
section
variable {T : Tb} {fa : Fa} {ca : Nat → Addr} {k : Nat}
mutual
theorem sS : ∀ (s : S) (X : Cx) (W : WX) (st : Stmt), GoodS T fa ca k X → Takes X W → mS T X.N X.env.scope s st = true → PS X st (tsv X.K fa ca (evS (callN T.fn k) s) W)
  | .set i e, X, W, st, hg, tk, h => by
    unfold mS at h
    split at h <;> first | (cases h; done) | (simp only [reduceCtorEq] at *; done) | skip
    rename_i heq
    cases heq
    exact t_set hg tk (by simp only [mS]; exact h)
  | .setT is e, X, W, st, hg, tk, h => by
    unfold mS at h
    split at h <;> first | (cases h; done) | (simp only [reduceCtorEq] at *; done) | skip
    rename_i heq
    cases heq
    exact t_setT hg tk (by simp only [mS]; exact h)
  | .par is es, X, W, st, hg, tk, h => by
    unfold mS at h
    split at h <;> first | (cases h; done) | (simp only [reduceCtorEq] at *; done) | skip
    rename_i heq
    cases heq
    exact t_par hg tk (by simp only [mS]; exact h)
  | .setI o i e, X, W, st, hg, tk, h => by
    unfold mS at h
    split at h <;> first | (cases h; done) | (simp only [reduceCtorEq] at *; done) | skip
    rename_i heq
    cases heq
    exact t_setI hg tk (by simp only [mS]; exact h)
  | .app o e, X, W, st, hg, tk, h => by
    unfold mS at h
    split at h <;> first | (cases h; done) | (simp only [reduceCtorEq] at *; done) | skip
    rename_i heq
    cases heq
    exact t_app hg tk (by simp only [mS]; exact h)
  | .ret e, X, W, st, hg, tk, h => by
    unfold mS at h
    split at h <;> first | (cases h; done) | (simp only [reduceCtorEq] at *; done) | skip
    rename_i heq
    cases heq
    refine PS_of (ps_ret (sE e X W _ hg.toGood tk h).1) fun D σ H ⟨A, G, S, g, s, p⟩ => ?_
    simp only [evS] at p
    exact (subS (rep1 := Rep X.K fa) g s p).mono fun v H1 ⟨A1, a, S1, e1, s1, r1, p1⟩ => p1 v H1 A1 Ext.refl s1 r1
  | .exp e, X, W, st, hg, tk, h => by
    unfold mS at h
    split at h <;> first | (cases h; done) | (simp only [reduceCtorEq] at *; done) | skip
    rename_i heq
    cases heq
    simp only [Bool.and_eq_true] at h
    refine PS_of (ps_expr (sE e X W _ hg.toGood tk h.2).1 (noComp_ok h.1)) fun D σ H ⟨A, G, S, g, s, p⟩ => ?_
    simp only [evS] at p
    exact (subS (rep1 := Rep X.K fa) g s p).mono fun v H1 ⟨A1, a, S1, e1, s1, r1, p1⟩ => p1 σ H1 A1 Ext.refl s1 (g.mono e1)
  | .ife c a b, X, W, st, hg, tk, h => by
    unfold mS at h
    split at h <;> first | (cases h; done) | (simp only [reduceCtorEq] at *; done) | skip
    rename_i heq
    cases heq
    simp only [Bool.and_eq_true] at h
    refine PS_of (ps_if (sE c X W _ hg.toGood tk h.1).2 (sSs a X W _ hg tk h.2.1) (sSs b X W _ hg tk h.2.2)) fun D σ H ⟨A, G, S, g, s, p⟩ => ?_
    have e : evS (callN T.fn k) (.ife c a b) G S = (R.toB (evE (callN T.fn k) c G S)).toS G fun t S1 => if t = true then evSs (callN T.fn k) a G S1 else evSs (callN T.fn k) b G S1 := by
      simp only [evS]
      cases evE (callN T.fn k) c G S with
      | ok d S1 => cases d with
        | bl t => cases t <;> rfl
        | _ => rfl
      | exc x S1 => rfl
      | bad => rfl
    rw [e] at p
    refine (subS (rep1 := RepB) (m1 := fun G S => R.toB (evE (callN T.fn k) c G S)) g s p).mono fun t H1 ⟨A1, t', S1, e1, s1, r1, p2⟩ => ?_
    subst r1
    cases t with
    | false => rw [if_neg Bool.false_ne_true] at p2 ⊢; exact ⟨A1, G, S1, g.mono e1, s1, p2⟩
    | true => rw [if_pos rfl] at p2 ⊢; exact ⟨A1, G, S1, g.mono e1, s1, p2⟩
  | .whl c b, X, W, st, hg, tk, h => by
    unfold mS at h
    split at h <;> first | (cases h; done) | (simp only [reduceCtorEq] at *; done) | skip
    rename_i heq
    cases heq
    simp only [Bool.and_eq_true] at h
    exact t_whl hg (sE c X W _ hg.toGood tk h.1).2 (sSs b X W _ hg tk h.2)
  | .for_ tg it b, X, W, st, hg, tk, h => by
    unfold mS at h
    split at h <;> first | (cases h; done) | (simp only [reduceCtorEq] at *; done) | skip
    rename_i heq
    cases heq
    simp only [Bool.and_eq_true] at h
    obtain ⟨h0, h1, h2, h3, h4⟩ := h
    exact t_for hg (sI it X W _ _ hg.toGood tk h0 h3) (s_tg (ok := loc X.env.scope) hg.calm hg.nd (fun x hx => ⟨locS hx, .inl (hg.fn x)⟩) h1) (sSs b X W _ hg tk h4) (plain_fold h2 _)
  | .brk, X, W, st, hg, tk, h => by
    unfold mS at h
    split at h <;> first | (cases h; done) | (simp only [reduceCtorEq] at *; done) | skip
    refine PS_of ps_break fun D σ H ⟨A, G, S, g, s, p⟩ => ?_
    simp only [evS] at p
    exact p σ H A Ext.refl s g
  | .raise c m, X, W, st, hg, tk, h => by
    unfold mS at h
    split at h <;> first | (cases h; done) | (simp only [reduceCtorEq] at *; done) | skip
    rename_i heq
    cases heq
    simp only [Bool.and_eq_true, decide_eq_true_eq] at h
    obtain ⟨h1, h2, rfl⟩ := h
    exact t_raise hg tk h1 h2
  | .try_ b hs, X, W, st, hg, tk, h => by
    unfold mS at h
    split at h <;> first | (cases h; done) | (simp only [reduceCtorEq] at *; done) | skip
    rename_i heq
    cases heq
    simp only [Bool.and_eq_true, Bool.not_eq_true'] at h
    exact t_try hg tk h.1 h.2.1 fun W' pn xe tk' ho => sSs b (X.tr pn xe) W' _ ⟨⟨hg.calm, hg.nd, hg.room, hg.top⟩, hg.fn, ho, hg.blk, hg.stk, hg.frm⟩ tk' h.2.2
  | .raiseE c f e, X, W, st, hg, tk, h => by
    unfold mS at h
    split at h <;> first | (cases h; done) | (simp only [reduceCtorEq] at *; done) | skip
    rename_i heq
    cases heq
    simp only [Bool.and_eq_true, decide_eq_true_eq] at h
    obtain ⟨h1, h2, h3, h4⟩ := h
    exact t_raiseE hg tk h1 h2 h3 (sE e X W _ hg.toGood tk h4).1
  | .tryAs b c j ha, X, W, st, hg, tk, h => by
    unfold mS at h
    split at h <;> first | (cases h; done) | (simp only [reduceCtorEq] at *; done) | skip
    rename_i heq
    cases heq
    simp only [Bool.and_eq_true, decide_eq_true_eq] at h
    obtain ⟨h1, h2, ⟨h3, h4, h5⟩, h6, h7⟩ := h
    exact t_tryAs hg tk h1 h2 h3 h4 h5 h6 fun W' pn xe tk' ho => sSs b (X.tr pn xe) W' _ ⟨⟨hg.calm, hg.nd, hg.room, hg.top⟩, hg.fn, ho, hg.blk, hg.stk, hg.frm⟩ tk' h7
  | .forK tg i b, X, W, st, hg, tk, h => by
    unfold mS at h
    split at h <;> first | (cases h; done) | (simp only [reduceCtorEq] at *; done) | skip
    rename_i heq
    cases heq
    simp only [Bool.and_eq_true, decide_eq_true_eq] at h
    obtain ⟨h1, h2, h3, h4⟩ := h
    exact t_forK hg h1 h2 (s_tg (ok := loc X.env.scope) hg.calm hg.nd (fun x hx => ⟨locS hx, .inl (hg.fn x)⟩) h3) (sSs b X W _ hg tk h4)
theorem sSs : ∀ (s : Ss) (X : Cx) (W : WX) (st : List Stmt), GoodS T fa ca k X → Takes X W → mSs T X.N X.env.scope s st = true → PSs X st (tsv X.K fa ca (evSs (callN T.fn k) s) W)
  | .nil, X, W, st, hg, tk, h => by
    unfold mSs at h
    split at h <;> first | (cases h; done) | (simp only [reduceCtorEq] at *; done) | skip
    refine PSs_of pss_nil fun D σ H ⟨A, G, S, g, s, p⟩ => ?_
    simp only [evSs] at p
    exact p σ H A Ext.refl s g
  | .cons s ss, X, W, st, hg, tk, h => by
    unfold mSs at h
    split at h <;> first | (cases h; done) | (simp only [reduceCtorEq] at *; done) | skip
    rename_i heq
    cases heq
    simp only [Bool.and_eq_true] at h
    refine PSs_of (pss_cons (sS s X W _ hg tk h.1) (sSs ss X W _ hg tk h.2)) fun D σ H ⟨A, G, S, g, st, p⟩ => ?_
    simp only [evSs] at p
    refine ⟨A, G, S, g, st, ?_⟩
    cases hr : evS (callN T.fn k) s G S with
    | bad => rw [hr] at p; exact p
    | exc x G2 S2 => rw [hr] at p; exact p
    | fl f G2 S2 =>
      rw [hr] at p
      cases f with
      | nx => exact fun σ' H' A' e' s' g' => ⟨A', G2, S2, g', s', SPost.mono p e'⟩
      | brk => exact p
      | ret d => exact p
end
end
end NW
end
section
/- A def keeps its promise; the program's top. -/
namespace NW
open PySem PySem.Spec L2

/-! ### a def's own places are let go -/
section
variable {K : PySem.W.Frag} {fa : Fa} {ca : Nat → Addr} {A A1 A2 A' : Pl} {H H1 H2 H' : Hp} {σ : L2.St} {G : Env}
mutual
theorem Rep.low : ∀ (d : D) (v : V), Rep K fa A H v d → d.under A.pl.length = true
  | .non, _, _ => by simp only [D.under]
  | .bl _, _, _ => by simp only [D.under]
  | .int _, _, _ => by simp only [D.under]
  | .str _, _, _ => by simp only [D.under]
  | .fn _, _, _ => by simp only [D.under]
  | .scr _, _, _ => by simp only [D.under]
  | .tup ds, _, h => by
    simp only [D.under]
    cases h with
    | tup _ _ _ r => exact RepL.low ds _ r
    | ktup _ r => exact RepL.low ds _ r
  | .lst ds, _, h => by
    simp only [D.under]
    cases h with
    | lst _ _ _ r => exact RepL.low ds _ r
  | .loc n, _, h => by
    simp only [D.under, decide_eq_true_eq]
    cases h with
    | loc m => exact (List.getElem?_eq_some_iff.mp m).1
theorem RepL.low : ∀ (ds : List D) (vs : List V), RepL K fa A H vs ds → D.underL A.pl.length ds = true
  | [], _, _ => by simp only [D.underL]
  | d :: ds, _, h => by
    cases h with
    | cons h1 h2 => simp only [D.underL, Rep.low d _ h1, RepL.low ds _ h2, Bool.and_self]
end
theorem zip_eq {α β : Type} : ∀ {xs ys : List (α × β)}, xs.map (·.1) = ys.map (·.1) → xs.map (·.2) = ys.map (·.2) → xs = ys
  | [], [], _, _ => rfl
  | [], _ :: _, h, _ => by simp at h
  | _ :: _, [], h, _ => by simp at h
  | (a, b) :: xs, (c, d) :: ys, h, h2 => by
    simp only [List.map_cons, List.cons.injEq] at h h2
    obtain ⟨rfl, h⟩ := h
    obtain ⟨rfl, h2⟩ := h2
    rw [zip_eq h h2]
theorem Ob.same_eq {a b : Ob} (h : Ob.same a b = true) : a = b := by
  cases a with
  | lst xs =>
    cases b with
    | lst ys =>
      simp only [Ob.same] at h
      rw [D.sameL_eq _ _ h]
    | dct ys => simp only [Ob.same] at h; cases h
    | dks g ys => simp only [Ob.same] at h; cases h
  | dks f xs =>
    cases b with
    | lst ys => simp only [Ob.same] at h; cases h
    | dct ys => simp only [Ob.same] at h; cases h
    | dks g ys =>
      simp only [Ob.same, Bool.and_eq_true, beq_iff_eq, decide_eq_true_eq] at h
      rw [h.1, zip_eq h.2.1 (D.sameL_eq _ _ h.2.2)]
  | dct xs =>
    cases b with
    | lst ys => simp only [Ob.same] at h; cases h
    | dks g ys => simp only [Ob.same] at h; cases h
    | dct ys =>
      simp only [Ob.same, Bool.and_eq_true] at h
      rw [zip_eq (D.sameL_eq _ _ h.1) (D.sameL_eq _ _ h.2)]
theorem RepK.low {es : List (NestedKey × Addr × V)} {kvs : List (D × D)} (r : Paired (RepK K fa A H) es kvs) : D.underL A.pl.length (kvs.map (·.1)) = true ∧ D.underL A.pl.length (kvs.map (·.2)) = true := by
  induction r with
  | nil => exact ⟨by simp only [List.map_nil, D.underL], by simp only [List.map_nil, D.underL]⟩
  | cons h t ih =>
    obtain ⟨_, _, h3, h4⟩ := h
    exact ⟨by simp only [List.map_cons, D.underL, Rep.low _ _ h3, ih.1, Bool.and_self], by simp only [List.map_cons, D.underL, Rep.low _ _ h4, ih.2, Bool.and_self]⟩
theorem RepS.low {es : List (Key × V)} {kvs : List (Str × D)} (r : Paired (RepS K fa A H) es kvs) : D.underL A.pl.length (kvs.map (·.2)) = true := by
  induction r with
  | nil => simp only [List.map_nil, D.underL]
  | cons h t ih => simp only [List.map_cons, D.underL, Rep.low _ _ h.2, ih, Bool.and_self]
theorem RepS.under {n : Nat} {es : List (Key × V)} {kvs : List (Str × D)} (r : Paired (RepS K fa A H) es kvs) (h2 : D.underL n (kvs.map (·.2)) = true) : Paired (RepS K fa (A.take n) H) es kvs := by
  induction r with
  | nil => exact .nil
  | cons h t ih =>
    simp only [List.map_cons, D.underL, Bool.and_eq_true] at h2
    exact .cons ⟨h.1, Rep.under _ _ h.2 h2.1⟩ (ih h2.2)
theorem RepK.under {n : Nat} {es : List (NestedKey × Addr × V)} {kvs : List (D × D)} (r : Paired (RepK K fa A H) es kvs) (h1 : D.underL n (kvs.map (·.1)) = true) (h2 : D.underL n (kvs.map (·.2)) = true) : Paired (RepK K fa (A.take n) H) es kvs := by
  induction r with
  | nil => exact .nil
  | cons h t ih =>
    simp only [List.map_cons, D.underL, Bool.and_eq_true] at h1 h2
    obtain ⟨a, b, h3, h4⟩ := h
    exact .cons ⟨a, b, Rep.under _ _ h3 h1.1, Rep.under _ _ h4 h2.1⟩ (ih h1.2 h2.2)
theorem letGo_ok {S0 S S' : Store} {d d' : D} {v : V} (s0 : SRel K fa A H S0) (e : Ext A H A' H') (s : SRel K fa A' H' S) (r : Rep K fa A' H' v d) (h : letGo S0.length S0 S d = some (d', S')) :
    ∃ A'', Ext A H A'' H' ∧ SRel K fa A'' H' S' ∧ Rep K fa A'' H' v d' := by
  obtain ⟨B, hB⟩ := e.pre
  have hpl : A'.pl.take S0.length = A.pl := by rw [hB, ← s0.len, List.take_left]
  unfold letGo at h
  split at h
  case isFalse => cases h
  rename_i hc
  simp only [Bool.and_eq_true, beq_iff_eq, List.all_eq_true, List.mem_range] at hc
  obtain ⟨hl, ho⟩ := hc
  have ext : Ext A H (A'.take S0.length) H' := ⟨⟨[], by show A'.pl.take _ = _; rw [hpl, List.append_nil]⟩, e.fb, fun b h1 h2 => by
    have h1 : b ∈ A'.pl.take S0.length := h1
    rw [hpl] at h1; exact absurd h1 h2, e.keep, e.frz⟩
  have srel : SRel K fa (A'.take S0.length) H' (S.take S0.length) := by
    refine ⟨?_, ?_, fun m o hm => ?_, fun b hb => ⟨(s.fbt b hb).1, fun z => (s.fbt b hb).2 (List.mem_of_mem_take z)⟩⟩
    · show (A'.pl.take _).length = _
      rw [List.length_take, List.length_take, s.len]
    · exact s.nd.sublist (List.take_sublist ..)
    · have hmn : m < S0.length := by
        have := (List.getElem?_eq_some_iff.mp hm).1
        rw [hl] at this; exact this
      rw [List.getElem?_take_of_lt hmn] at hm
      obtain ⟨a, ha, ra⟩ := s.obj m o hm
      refine ⟨a, by show (A'.pl.take _)[m]? = _; rw [List.getElem?_take_of_lt hmn]; exact ha, ?_⟩
      have hu : Ob.under S0.length o = true := by
        have q := ho m hmn
        rw [List.getElem?_eq_getElem hmn, hm] at q
        simp only [Bool.or_eq_true] at q
        rcases q with q | q
        · have q' := Ob.same_eq q
          obtain ⟨a0, _, r0⟩ := s0.obj m S0[m] (List.getElem?_eq_getElem hmn)
          rw [q'] at r0
          cases r0 with
          | lst _ rl =>
            simp only [Ob.under]
            rw [← s0.len]
            exact RepL.low _ _ rl
          | dct _ rl =>
            simp only [Ob.under]
            rw [← s0.len, (RepK.low rl).1, (RepK.low rl).2]
            rfl
          | dks _ rl =>
            simp only [Ob.under]
            rw [← s0.len]
            exact RepS.low rl
        · exact q
      cases ra with
      | lst q rl => exact .lst q (RepL.under _ _ rl (by simpa only [Ob.under] using hu))
      | dct q rl =>
        simp only [Ob.under, Bool.and_eq_true] at hu
        exact .dct q (RepK.under rl hu.1 hu.2)
      | dks q rl => exact .dks q (RepS.under rl (by simpa only [Ob.under] using hu))
  refine ⟨A'.take S0.length, ext, ?_⟩
  have plain : ∀ {d : D}, Rep K fa A' H' v d → (if D.under S0.length d = true then some (d, S.take S0.length) else none) = some (d', S') → SRel K fa (A'.take S0.length) H' S' ∧ Rep K fa (A'.take S0.length) H' v d' := fun {d} r h => by
    split at h
    · rename_i hu
      cases h
      exact ⟨srel, Rep.under _ _ r hu⟩
    · cases h
  cases d with
  | loc m =>
    dsimp only at h
    split at h
    · rename_i hm
      cases h
      exact ⟨srel, Rep.under _ _ r (by simp only [D.under, decide_eq_true_eq]; exact hm)⟩
    · rename_i hm
      split at h
      · rename_i ds hS
        split at h
        · rename_i hu
          cases h
          refine ⟨srel, ?_⟩
          cases r with
          | loc ma =>
            obtain ⟨a', ha', ra⟩ := s.obj m _ hS
            rw [ma] at ha'; cases ha'
            cases ra with
            | lst q rl =>
              refine .lst q (fun z => ?_) (fun z => (s.fbt _ z).2 (List.mem_of_getElem? ma)) (RepL.under _ _ rl hu)
              have z : _ ∈ A'.pl.take S0.length := z
              rw [hpl] at z
              obtain ⟨j, hj⟩ := List.getElem?_of_mem z
              have hj' : j < S0.length := by rw [← s0.len]; exact (List.getElem?_eq_some_iff.mp hj).1
              obtain ⟨h1, e1⟩ := List.getElem?_eq_some_iff.mp (e.at hj)
              obtain ⟨h2, e2⟩ := List.getElem?_eq_some_iff.mp ma
              have := (List.getElem_inj s.nd).mp (e1.trans e2.symm)
              omega
        · cases h
      · cases h
  | non => exact plain r h
  | bl _ => exact plain r h
  | int _ => exact plain r h
  | str _ => exact plain r h
  | tup _ => exact plain r h
  | lst _ => exact plain r h
  | fn _ => exact plain r h
  | scr _ => exact plain r h
end

/-! ### a def -/
def parsOk (a : Arguments) : Bool := a.posonlyargs.isEmpty && (a.vararg.isNone && (a.kwonlyargs.isEmpty && (a.kwarg.isNone && (a.kw_defaults.isEmpty && a.defaults.isEmpty))))
def scC (N P : List Str) (sc : Scope) : Bool :=
  decide (sc.kind = .function) && (!sc.isCoroutine && (!sc.isGenerator && (decide N.Nodup && (decide (N.take P.length = P) && (P.all (fun x => decide (sc.names.lookup x = some .local) || decide (sc.names.lookup x = some .cell)) && sc.names.all (fun y => !decide (y.2 = .free)))))))
theorem fnScope_by {N P : List Str} {sc : Scope} (h : scC N P sc = true) : FnScope N P sc := by
  unfold scC at h
  simp only [Bool.and_eq_true, Bool.not_eq_true', decide_eq_true_eq, List.all_eq_true, Bool.or_eq_true, decide_eq_false_iff_not] at h
  obtain ⟨h1, h2, h3, h4, h5, h6, h7⟩ := h
  exact ⟨h1, h2, h3, h4, h5, h6, h7⟩
def pars (a : Arguments) : List Str := a.args.map (·.arg)
/-- the body without its text -/
def noDoc : List Stmt → List Stmt
  | .Expr (.Constant (.str _) _ _) _ :: r => r
  | r => r
def fdC (T : Tb) (fd : FD) (a : Arguments) (body : List Stmt) (sc : Scope) : Bool :=
  decide (fd.N.take fd.np = pars a) && (decide ((pars a).length = fd.np) && (scC fd.N (pars a) sc && mSs T fd.N sc fd.body (noDoc body)))
section
variable {T : Tb} {fa : Fa} {ca : Nat → Addr} {k : Nat} {P : Program} {w : World} {K : PySem.W.Frag} {mg : Str → Option Value} {base : Heap}
theorem startE_rel {A : Pl} {H : Hp} {N : List Str} {vs : List V} {ds : List D} (r : RepL K fa A H vs ds) (hl : vs.length ≤ N.length) : GRel K fa A H (L2.start N vs) (startE N.length ds) := by
  have el := r.length
  refine ⟨by simp only [L2.start, startE, List.length_append, List.length_map, List.length_replicate]; omega, fun i d h => ?_⟩
  unfold startE at h
  unfold L2.start
  by_cases hi : i < ds.length
  · rw [List.getElem?_append_left (by rw [List.length_map]; exact hi), List.getElem?_map] at h
    obtain ⟨d', h1, h2⟩ := Option.map_eq_some_iff.mp h
    cases h2
    obtain ⟨v, h3, h4⟩ := RepL.get r h1
    refine ⟨v, ?_, h4⟩
    rw [List.getElem?_append_left (by rw [List.length_map]; omega), List.getElem?_map, h3]
    rfl
  · rw [List.getElem?_append_right (by rw [List.length_map]; omega), List.getElem?_replicate] at h
    split at h
    · cases h
    · cases h
theorem noDoc_ok {X : Cx} {body : List Stmt} {t : TS} (h : PSs X (noDoc body) t) : PSs X body t := by
  unfold noDoc at h
  split at h
  · exact PSs_of (pss_cons ps_doc h) fun D σ H q => q
  · exact h
/-- a def keeps its promise one level up -/
theorem fd_ok {f : Nat} {fd : FD} {fdat : FuncData} {x q : Str} {a : Arguments} {body : List Stmt} {sc : Scope} (tp : Top T fa ca k P w K mg base) (hf : T.fn f = some fd) (hc : fdC T fd a body sc = true) (F : FunD K x q a body sc [] [] (fa f) fdat) :
    FnOk P w K mg base (L2.CX P w) (k + 1 + 4) (fa f) fdat (fd.N.take fd.np) (spF T K fa ca (k + 1) f) := by
  unfold fdC at hc
  simp only [Bool.and_eq_true, decide_eq_true_eq] at hc
  obtain ⟨h1, h2, h3, h4⟩ := hc
  have S := fnScope_by h3
  rw [h1]
  refine F.ok S (fun vs H Q E h => ?_) (fun cdv A outer s H vs Q E hr h => ?_)
  · obtain ⟨⟨fd', e, hl⟩, _⟩ := h
    rw [hf] at e; cases e
    rw [hl, h1]
  · obtain ⟨⟨fd', e, hl⟩, A0, S0, ds, s0, r0, p0⟩ := h
    rw [hf] at e; cases e
    have tk : Takes (cxOf (L2.CX P w) P w K mg base fd.N q sc (fa f) cdv A outer s H E) (fun cls d _ H' => E cls d H') := takes_of rfl rfl rfl rfl
    have hg : GoodS T fa ca k (cxOf (L2.CX P w) P w K mg base fd.N q sc (fa f) cdv A outer s H E) :=
      ⟨⟨rfl, S.nd, hr, tp⟩, fun _ => rfl, passes_of rfl, (show (if sc.kind.isAnnotationScope = true then ScopeKind.function else sc.kind) = .function by rw [S.kind]; rfl), rfl, rfl⟩
    refine ⟨_, noDoc_ok (sSs fd.body _ _ _ hg tk h4), A0, startE fd.N.length ds, S0, startE_rel r0 ?_, s0, ?_⟩
    · rw [hl, List.length_take]; omega
    have hds : ds.length = fd.np := by rw [← r0.length, hl, h1, h2]
    simp only [callN, hf, hds, if_true] at p0
    cases hr : evSs (callN T.fn k) fd.body (startE fd.N.length ds) S0 with
    | bad => rw [hr] at p0; exact p0
    | exc x G2 S2 => rw [hr] at p0; exact fun c d σ' H' A' e' s' g' r' => p0 c d H' A' e' s' r'
    | fl fl G2 S2 =>
      rw [hr] at p0
      cases fl with
      | brk => exact p0.elim
      | nx =>
        intro σ' H' A' e' s' g'
        simp only [endCall] at p0
        split at p0
        · split at p0
          · rename_i d S' hgo
            obtain ⟨A'', e2, s2, r2⟩ := letGo_ok (v := V.non) s0 e' s' .non hgo
            exact p0 _ H' A'' e2 s2 r2
          · exact p0.elim
        · exact p0 _ H' A' e' s' .non
      | ret d =>
        intro v H' A' e' s' r'
        simp only [endCall] at p0
        split at p0
        · split at p0
          · rename_i d S' hgo
            obtain ⟨A'', e2, s2, r2⟩ := letGo_ok s0 e' s' r' hgo
            exact p0 _ H' A'' e2 s2 r2
          · exact p0.elim
        · exact p0 _ H' A' e' s' r'
end
end NW
end
section
/- Classes of exceptions with an __init__ that keeps its argument. -/
namespace NW
open PySem PySem.Spec L2 PyProof.Rows
/-- the class that the __init__ calls first -/
def baseN : Str := "NoticeError"
/-- NoticeError's __init__ is ValueError's -/
structure BaseC (K : PySem.W.Frag) (C : Addr) : Prop where
  rd : PySem.W.readsIn K C (.type "type") = true
  ga : PySem.W.specialIn K (.ref C) "__getattribute__" = some (some (.builtin "type.__getattribute__"))
  at_ : PySem.W.findCls K (.ref C) (.type "type") "__init__" = some (.val (.builtin "ValueError.__init__"))
def CfB : Option PySem.W.CFound → Bool
  | some (.val (.builtin i)) => decide (i = "ValueError.__init__")
  | _ => false
theorem CfB_ok {o : Option PySem.W.CFound} (h : CfB o = true) : o = some (.val (.builtin "ValueError.__init__")) := by
  unfold CfB at h
  split at h
  · rw [of_decide_eq_true h]
  · cases h
def baseB (K : PySem.W.Frag) (C : Addr) : Bool := PySem.W.readsIn K C (.type "type") && (decide (PySem.W.specialIn K (.ref C) "__getattribute__" = some (some (.builtin "type.__getattribute__"))) && CfB (PySem.W.findCls K (.ref C) (.type "type") "__init__"))
theorem baseB_ok {K : PySem.W.Frag} {C : Addr} (h : baseB K C = true) : BaseC K C := by
  unfold baseB at h
  simp only [Bool.and_eq_true, decide_eq_true_eq] at h
  exact ⟨h.1, h.2.1, CfB_ok h.2.2⟩
def oexB (K : PySem.W.Frag) (C : Addr) : Bool := (match K.lookup C with
  | some ⟨.type "type", _, .cls cd, sl⟩ => (match cd.mro, sl.toList with
    | .ref C' :: bm, [_, _, _, _, some (.builtin n), _] => C' == C && (n == "ValueError.__new__" && (!cd.hasDel && (cd.hasDict && PySem.HandSPX.refsVE bm)))
    | _, _ => false)
  | _ => false) && (decide (PySem.W.findIn K (.ref C) "__setattr__" = some (some (.builtin "object.__setattr__"))) && (decide (PySem.W.subIn K (.ref C) (.type "BaseException") = some true) && (decide (PySem.W.typeIn K (.ref C) = some (.type "type")) && PySem.W.keepIn K (.ref C))))
theorem oexB_ok {K : PySem.W.Frag} {C : Addr} (h : oexB K C = true) : OexC K C := by
  unfold oexB at h
  simp only [Bool.and_eq_true, decide_eq_true_eq] at h
  obtain ⟨q, h2, h3, h4, h5⟩ := h
  refine ⟨?_, h2, h3, h4, h5⟩
  split at q
  · rename_i dd cd sl ho
    split at q
    · rename_i C' bm k0 k1 k2 k3 n k5 hm hs
      simp only [Bool.and_eq_true, beq_iff_eq, Bool.not_eq_true'] at q
      obtain ⟨rfl, rfl, hdel, hd, hr⟩ := q
      obtain ⟨nm, bs, mro, ns, qn, hdct, sn, sub, ab, col, del⟩ := cd
      dsimp only at hm hdel hd
      subst hm hdel hd
      have hsl : sl = #[k0, k1, k2, k3, some (.builtin "ValueError.__new__"), k5] := by
        obtain ⟨l⟩ := sl
        simp only at hs
        rw [hs]
      subst hsl
      exact ⟨nm, qn, ns, bs, bm, sn, sub, ab, col, dd, k0, k1, k2, k3, k5, ho, hr⟩
    · cases q
  · cases q
section
variable {X : Cx} {ta : TA} {p1 p2 p3 p4 pos : Pos}
/-- NoticeError.__init__(self, text) -/
theorem pe_ninit {b s : Str} {z : Str} {j : Nat} {NE : Addr} (hg : Gl X b) (hm : X.mg b = some (.ref NE)) (hdb : (b == ("__debug__" : Str)) = false) (B : BaseC X.K NE) (hline : (p2.endLine == pos.line) = true)
    (ha : PA X [.Name s p3, .Constant (.str z) j p4] ta) :
    PE X (.Call (.Attribute (.Name b p1) "__init__" p2) [.Name s p3, .Constant (.str z) j p4] [] pos) (tVeI X.K ta) := by
  refine ⟨fun pins s0 σ H Q I h => ?_⟩
  rw [arm_eval_Call, show attributeBase (.Name b p1) ("__init__" : Str) X.env (eval (.Name b p1) X.env) = eval (.Name b p1) X.env from rfl]
  refine wpAny_bind (ld_glob I hg hm ?_ hdb)
  refine wpAny_bind (wpAny_standAt ?_)
  have hform : methodCallForm ([Expr.Name s p3, .Constant (.str z) j p4].length + ([] : List Keyword).length) (backTo pos (starEach [.Name s p3, .Constant (.str z) j p4] X.env)) (backToKw pos (keywordEach [] X.env)) = true := rfl
  have hpos : methodCallPos true (.Name b p1) X.env p2 pos = pure pos := by unfold methodCallPos; simp [hline]
  unfold methodCall
  rw [hform]
  refine wpAny_bind (wpAny_holding (PySem.W.method_cls I.kIn B.ga (PySem.W.cls_value I.kIn B.rd B.at_ (by decide +kernel) ?_)))
  refine wpAny_bind (wpAny_of_eq hpos ?_)
  show wpAny _ _ (callWith pos (Value.builtin "ValueError.__init__") [] (backTo pos (starEach [.Name s p3, .Constant (.str z) j p4] X.env)) []) _ _ _
  refine PyProof.Rows.callWith_method1 (thn (ha.run pos pins _ σ H _ (I.tok _) h) fun us s1 ⟨vs, H1, I1, r1, a, C, ws, ev, hl, T, ea, q⟩ => ?_) rfl rfl
  subst ev
  cases r1 with
  | @cons _ u0 _ ur ra rw' =>
    obtain rfl : u0 = Value.ref a := ra
    have hlen : ur.length ≤ sizeLine := by
      rw [← Paired.length rw', sizeLine_eq]
      omega
    exact oinit_ok T I1 ea hlen fun s' J => ⟨.non, H1, J, rfl, q⟩
end
/-- the text of such an __init__ -/
def initB (f : Str) (d : He.DefD) : Bool := decide (d.dfl = [] ∧ d.kwd = []) && (parsOk d.params && (match d.body with
  | [.Expr (.Call (.Attribute (.Name b _) m ap) [.Name s _, .Constant (.str _) _ _] [] cp) _, .Assign [.Attribute (.Name s2 _) g _] (.Name w _) _] => (ap.endLine == cp.line) && (
    decide (b = baseN ∧ m = ("__init__" : Str) ∧ g = f ∧ s2 = s ∧ pars d.params = [s, w]) && (gl d.scope b && (vis d.scope s && (vis d.scope w && scC [s, w] [s, w] d.scope))))
  | _ => false))
section
variable {P : Program} {w : World} {K : PySem.W.Frag} {mg : Str → Option Value} {base : Heap}
theorem init_ok {f : Str} {d : He.DefD} {C fI NE : Addr} {fdat : FuncData} (hb : initB f d = true) (F : FunD K d.name d.qual d.params d.body d.scope [] [] fI fdat) (T : OexC K C) (hno : PySem.W.findIn K (.ref C) f = some none) (hm : mg baseN = some (.ref NE)) (B : BaseC K NE) :
    ∃ ps, ps.length = 2 ∧ ps = pars d.params ∧ parsOk d.params = true ∧ ps.Nodup ∧ FnOk P w K mg base (L2.CX P w) 1 fI fdat ps (spI K C f) := by
  unfold initB at hb
  simp only [Bool.and_eq_true, decide_eq_true_eq] at hb
  obtain ⟨_, hpo, hb⟩ := hb
  split at hb
  case h_2 => cases hb
  rename_i b _ m ap s _ _ _ _ cp _ s2 _ g _ wn _ _ hbody
  simp only [Bool.and_eq_true, decide_eq_true_eq] at hb
  obtain ⟨hl, ⟨rfl, rfl, rfl, rfl, hps⟩, h1, h2, h3, h4⟩ := hb
  have S := fnScope_by h4
  refine ⟨[s2, wn], rfl, hps.symm, hpo, S.nd, ?_⟩
  refine F.ok S (fun vs H Q E h => ?_) (fun cdv A outer s H vs Q E hr h => ?_)
  · obtain ⟨a, v, rfl, _⟩ := h; rfl
  · obtain ⟨a, v, rfl, ha, q⟩ := h
    rw [hbody]
    have G1 : Gl (cxOf (L2.CX P w) P w K mg base [s2, wn] d.qual d.scope fI cdv A outer s H E) baseN ∧ okN baseN = true := gl_of h1
    have V1 : Vis (cxOf (L2.CX P w) P w K mg base [s2, wn] d.qual d.scope fI cdv A outer s H E).env.scope s2 ∧ okN s2 = true := vis_of h2
    have V2 : Vis (cxOf (L2.CX P w) P w K mg base [s2, wn] d.qual d.scope fI cdv A outer s H E).env.scope wn ∧ okN wn = true := vis_of h3
    have n1 := okN_of G1.2
    have n2 := okN_of V1.2
    have n3 := okN_of V2.2
    have ps : ∀ {p : Pos}, PE (cxOf (L2.CX P w) P w K mg base [s2, wn] d.qual d.scope fI cdv A outer s H E) (.Name s2 p) _ := fun {p} => pe_var (i := 0) (pos := p) rfl V1.1 n2.1 n2.2.1
    have pw : ∀ {p : Pos}, PE (cxOf (L2.CX P w) P w K mg base [s2, wn] d.qual d.scope fI cdv A outer s H E) (.Name wn p) _ := fun {p} => pe_var (i := 1) (pos := p) rfl V2.1 n3.1 n3.2.1
    refine ⟨_, pss_cons (ps_expr (pe_ninit G1.1 hm n1.1 B hl (pa_cons ps (pa_cons pe_str pa_nil))) rfl) (pss_cons (ps_ost ps pw) pss_nil), ?_⟩
    refine ⟨.ref a, rfl, a, C, _, rfl, by simp, T, ha, ?_⟩
    refine ⟨v, rfl, .ref a, rfl, a, C, rfl, T, hno, .inl ⟨ha, fun dx hd hn => ?_⟩⟩
    exact q dx hd hn
end
end NW
end
section
/- The program's top, from the facts that the head tells; the end of a law. -/
namespace NW
open PySem PySem.Spec L2

/-! ### constants of the top -/
mutual
def valB (K : PySem.W.Frag) : D → Value → Bool
  | .non, .none => true
  | .bl b, .bool c => b == c
  | .int i, .int j _ => decide (i = j)
  | .str x, .str y _ => decide (x = y)
  | .tup ds, .ref a => (match K.lookup a with
    | some ⟨.type c, _, .seq its _, _⟩ => decide (c = "tuple") && (decide (its.size ≤ sizeLine) && valLB K ds its.toList)
    | _ => false)
  | _, _ => false
def valLB (K : PySem.W.Frag) : List D → List Value → Bool
  | [], [] => true
  | d :: ds, v :: vs => valB K d v && valLB K ds vs
  | _, _ => false
end
mutual
theorem valB_ok {K : PySem.W.Frag} {fa : Fa} : ∀ {d : D} {u : Value}, valB K d u = true → ∃ v, RelV v u ∧ ∀ A H, Rep K fa A H v d
  | .non, u, h => by cases u <;> simp only [valB] at h <;> first | (cases h; done) | exact ⟨.non, rfl, fun _ _ => .non⟩
  | .bl b, u, h => by
    cases u <;> simp only [valB] at h <;> first | (cases h; done) | skip
    cases eq_of_beq h
    exact ⟨.bl b, rfl, fun _ _ => .bl b⟩
  | .int b, u, h => by
    cases u <;> simp only [valB] at h <;> first | (cases h; done) | skip
    cases of_decide_eq_true h
    exact ⟨.int b, ⟨_, rfl⟩, fun _ _ => .int b⟩
  | .str b, u, h => by
    cases u <;> simp only [valB] at h <;> first | (cases h; done) | skip
    cases of_decide_eq_true h
    exact ⟨.str b, ⟨_, rfl⟩, fun _ _ => .str b⟩
  | .tup ds, u, h => by
    cases u <;> simp only [valB] at h <;> first | (cases h; done) | skip
    rename_i a
    cases q : K.lookup a with
    | none => rw [q] at h; cases h
    | some o =>
      obtain ⟨oc, od, dt, osl⟩ := o
      rw [q] at h
      cases oc with
      | type c =>
        cases dt with
        | seq its n =>
          simp only [Bool.and_eq_true, decide_eq_true_eq] at h
          obtain ⟨h1, h2, h3⟩ := h
          obtain ⟨vs, r1, r2⟩ := valLB_ok (fa := fa) h3
          exact ⟨.ref a, rfl, fun A H => .ktup ⟨_, its, n, q, by rw [h1], rfl, h2, r1⟩ (r2 A H)⟩
        | _ => cases h
      | _ => cases dt <;> cases h
  | .lst _, u, h => by cases u <;> simp only [valB] at h <;> cases h
  | .loc _, u, h => by cases u <;> simp only [valB] at h <;> cases h
  | .fn _, u, h => by cases u <;> simp only [valB] at h <;> cases h
  | .scr _, u, h => by cases u <;> simp only [valB] at h <;> cases h
theorem valLB_ok {K : PySem.W.Frag} {fa : Fa} : ∀ {ds : List D} {us : List Value}, valLB K ds us = true → ∃ vs, Vals vs us ∧ ∀ A H, RepL K fa A H vs ds
  | [], us, h => by
    cases us with
    | nil => exact ⟨[], .nil, fun _ _ => .nil⟩
    | cons _ _ => simp only [valLB] at h; cases h
  | d :: ds, us, h => by
    cases us with
    | nil => simp only [valLB] at h; cases h
    | cons u us =>
      simp only [valLB, Bool.and_eq_true] at h
      obtain ⟨v, a1, a2⟩ := valB_ok (fa := fa) h.1
      obtain ⟨vs, b1, b2⟩ := valLB_ok (fa := fa) h.2
      exact ⟨v :: vs, .cons a1 b1, fun A H => .cons (a2 A H) (b2 A H)⟩
end
def cstB (K : PySem.W.Frag) (p : Str × D) : Bool := match PySem.W.nsIn K mainGlobals p.1 with
  | some (some u) => valB K p.2 u
  | _ => false

/-! ### a program -/
structure Pg where
  fds : List (Nat × FD)
  ats : List Nat
  cs : List (Str × D)
  /-- classes of exceptions without their own __init__ -/
  xs : List (Nat × Str) := []
  /-- those with an __init__ that keeps its argument: the name, the field, the class's place in the text -/
  xi : List (Nat × Str × Str × Nat) := []
def Pg.T (p : Pg) : Tb := ⟨fun f => p.fds.lookup f, fun x => p.cs.lookup x, fun c => p.xs.lookup c, fun c => (p.xi.lookup c).map fun q => (q.1, q.2.1)⟩
/-- all classes of exceptions -/
def Pg.ax (p : Pg) : List (Nat × Str) := p.xs ++ p.xi.map fun q => (q.1, q.2.1)
/-- a class of exceptions, as the written part tells it -/
def xcB (K : PySem.W.Frag) (q : Nat × Str) : Bool := PySem.W.nsIn K mainGlobals q.2 == some (some (.ref (He.ga K q.2))) && (PySem.W.excIn K (He.ga K q.2) excBases "ValueError.__new__" && (PySem.W.keepIn K (.ref (He.ga K q.2)) &&
  (PySem.W.subIn K (.ref (He.ga K q.2)) (.type "BaseException") == some true && PySem.W.typeIn K (.ref (He.ga K q.2)) == some (.type "type"))))
def exB (p : Pg) (K : PySem.W.Frag) : Bool := p.ax.all fun q => p.ax.all fun r => PySem.W.exmOne K (.ref (He.ga K q.2)) (.ref (He.ga K r.2)) == some (decide (q.1 = r.1))
/-- the __init__ of a class -/
def initD : Stmt → He.DefD
  | .ClassDef name _ _ body _ _ _ _ _ _ _ => (body.findSome? fun st => match st with
    | .FunctionDef m args b _ _ _ scope _ _ _ => if m = ("__init__" : Str) then some ⟨(name, some m), m, name ++ ("." : Str) ++ m, args, b, scope, [], []⟩ else none
    | _ => none).getD ⟨("", none), "", "", ⟨[], [], none, [], [], none, []⟩, [], ⟨.function, [], false, false, []⟩, [], []⟩
  | _ => ⟨("", none), "", "", ⟨[], [], none, [], [], none, []⟩, [], ⟨.function, [], false, false, []⟩, [], []⟩
def Pg.idef (P : Program) (q : Nat × Str × Str × Nat) : He.DefD := initD (P.main.body.getD q.2.2.2 (.Pass ⟨0, 0, 0, 0⟩))
def xiB (p : Pg) (P : Program) (K : PySem.W.Frag) (q : Nat × Str × Str × Nat) : Bool := decide (p.ax.lookup q.1 = some q.2.1) && (PySem.W.nsIn K mainGlobals q.2.1 == some (some (.ref (He.ga K q.2.1))) && (oexB K (He.ga K q.2.1) &&
  (decide (PySem.W.findIn K (.ref (He.ga K q.2.1)) q.2.2.1 = some none) && (xfB K (He.ga K q.2.1) && (decide (PySem.W.findIn K (.ref (He.ga K q.2.1)) "__init__" = some (some (.ref (He.ma K (He.ga K q.2.1) "__init__")))) &&
  (PySem.W.typeIn K (.ref (He.ma K (He.ga K q.2.1) "__init__")) == some (.type "function") && (PySem.W.nsIn K mainGlobals baseN == some (some (.ref (He.ga K baseN))) && (baseB K (He.ga K baseN) &&
  (initB q.2.2.1 (Pg.idef P q) && decide ((Pg.idef P q).at_ = (q.2.1, some ("__init__" : Str))))))))))))
def defD : Stmt → He.DefD
  | .FunctionDef name args body _ _ _ scope _ _ _ => ⟨(name, none), name, name, args, body, scope, [], []⟩
  | _ => ⟨("", none), "", "", ⟨[], [], none, [], [], none, []⟩, [], ⟨.function, [], false, false, []⟩, [], []⟩
def Pg.defs (p : Pg) (P : Program) : List He.DefD := p.ats.map fun i => defD (P.main.body.getD i (.Pass ⟨0, 0, 0, 0⟩))
def Pg.facts (p : Pg) : List He.Fa := p.fds.map (fun q => He.Fa.glo q.2.name) ++ bltNames.map He.Fa.free
def okDefs (T : Tb) : List (Nat × FD) → List He.DefD → Bool
  | [], [] => true
  | (_, fd) :: fds, d :: ds => decide (fd.name = d.name) && (decide (d.dfl = [] ∧ d.kwd = []) && (decide (d.at_ = (d.name, none)) && (parsOk d.params && (fdC T fd d.params d.body d.scope && okDefs T fds ds))))
  | _, _ => false
def Pg.adefs (p : Pg) (P : Program) : List He.DefD := p.defs P ++ p.xi.map (Pg.idef P)
def xtB (p : Pg) (P : Program) (K : PySem.W.Frag) : Bool := p.cs.all (cstB K) && (p.xs.all (xcB K) && (p.xi.all (xiB p P K) && exB p K))
def obsN (p : Pg) (P : Program) (K : PySem.W.Frag) : He.AlD := let o := He.obsD p.facts (p.adefs P) K; (o.1 && xtB p P K, o.2)
def SaysN (p : Pg) (P : Program) (K : PySem.W.Frag) : Prop := obsN p P K = He.valD (p.adefs P)
def obsNG (n : Nat) (p : Pg) (P : Program) (g : Addr → Option Obj) : He.AlD := obsN p P (He.frG g (cStatics :: He.asD g n))
def hookN (n : Nat) (p : Pg) (P : Program) : PySem.W.Hook where
  α := He.AlD
  obs := fun s => obsNG n p P s.heap.get?
  val := fun _ => He.valD (p.adefs P)
  says := fun _ h => ∃ K : PySem.W.Frag, K.In h ∧ SaysN p P K
  of := fun _ _ e => ⟨_, He.frG_in, e⟩
  keeps := fun _ _ _ ⟨K, hK, c⟩ k => ⟨K, PySem.W.Frag.In.keeps hK k, c⟩
theorem obsNG_eq {n : Nat} {p : Pg} {P : Program} {g : Addr → Option Obj} {s : Shared} (h : ∀ a, g a = s.heap.get? a) : obsNG n p P g = (hookN n p P).obs s := by
  have e : g = s.heap.get? := funext h
  rw [e] <;> rfl
theorem SaysN.b {p : Pg} {P : Program} {K : PySem.W.Frag} (c : SaysN p P K) : (He.obsD p.facts (p.adefs P) K).1 = true ∧ xtB p P K = true := by
  have c' : obsN p P K = He.valD (p.adefs P) := c
  have h1 : ((He.obsD p.facts (p.adefs P) K).1 && xtB p P K) = true := congrArg (fun z : He.AlD => z.1) c'
  rwa [Bool.and_eq_true] at h1
theorem SaysN.d {p : Pg} {P : Program} {K : PySem.W.Frag} (c : SaysN p P K) : He.SaysD p.facts (p.adefs P) K := by
  have c' : obsN p P K = He.valD (p.adefs P) := c
  have h2 : (He.obsD p.facts (p.adefs P) K).2 = (He.valD (p.adefs P)).2 := (congrArg (fun z : He.AlD => z.2) c' :)
  exact Prod.ext c.b.1 h2
theorem SaysN.t {p : Pg} {P : Program} {K : PySem.W.Frag} (c : SaysN p P K) : (∀ q ∈ p.cs, cstB K q = true) ∧ (∀ q ∈ p.xs, xcB K q = true) ∧ (∀ q ∈ p.xi, xiB p P K q = true) ∧ exB p K = true := by
  have h := c.b.2
  unfold xtB at h
  simp only [Bool.and_eq_true, List.all_eq_true] at h
  exact h
theorem SaysN.c {p : Pg} {P : Program} {K : PySem.W.Frag} (c : SaysN p P K) {q : Str × D} (hq : q ∈ p.cs) : cstB K q = true := c.t.1 q hq
/-! ### binding -/

theorem zip_look {ps : List Str} {us : List Value} (hn : ps.Nodup) (hl : us.length = ps.length) : ∀ {i : Nat} (hi : i < ps.length), (ps.zip us).lookup ps[i] = some (us[i]'(by omega)) := by
  induction ps generalizing us with
  | nil => intro i hi; simp at hi
  | cons p ps ih =>
    cases us with
    | nil => simp at hl
    | cons u us =>
      intro i hi
      rw [List.nodup_cons] at hn
      cases i with
      | zero => simp [List.zip_cons_cons, List.lookup_cons]
      | succ i =>
        have hi' : i < ps.length := by simpa using hi
        have hne : (ps[i] == p) = false := by
          rw [beq_eq_false_iff_ne]
          rintro e
          exact hn.1 (e ▸ List.getElem_mem hi')
        simp only [List.getElem_cons_succ, List.zip_cons_cons, List.lookup_cons, hne]
        exact ih hn.2 (by simpa using hl) hi'
theorem zip_all {ps : List Str} {us : List Value} (hn : ps.Nodup) (hl : us.length = ps.length) : (ps.filterMap fun n => ((ps.zip us).lookup n).map (n, ·)) = ps.zip us := by
  have e : ps.map (fun n => ((ps.zip us).lookup n).map (n, ·)) = (ps.zip us).map some := by
    apply List.ext_getElem
    · simp [hl]
    · intro i h1 h2
      have hi : i < ps.length := by simpa using h1
      simp only [List.getElem_map, zip_look hn hl hi, Option.map_some, List.getElem_zip]
  have : ∀ {α β : Type} (f : α → Option β) (l : List α) (r : List β), l.map f = r.map some → l.filterMap f = r := by
    intro α β f l
    induction l with
    | nil => intro r h; cases r with
      | nil => rfl
      | cons _ _ => cases h
    | cons a l ih => intro r h; cases r with
      | nil => cases h
      | cons b r =>
        simp only [List.map_cons, List.cons.injEq] at h
        rw [List.filterMap_cons_some h.1, ih r h.2]
  exact this _ _ _ e
theorem binds_any {x q : Str} {body : List Stmt} {sc : Scope} {kV doc pm : Value} {an : Option Addr} {cdv ct : Value} {a : Arguments} (ha : parsOk a = true) (hn : (pars a).Nodup) (us : List Value) (hl : us.length = (pars a).length) :
    bindArgs (PySem.W.fnOf x q a body sc .none kV doc pm an cdv ct) ⟨us, []⟩ = pure ((pars a).zip us) := by
  obtain ⟨a1, a2, a3, a4, a5, a6, a7⟩ := a
  unfold parsOk at ha
  simp only [Bool.and_eq_true, List.isEmpty_iff, Option.isNone_iff_eq_none] at ha
  obtain ⟨rfl, rfl, rfl, rfl, rfl, rfl⟩ := ha
  have hm : ((pars ⟨[], a2, none, [], [], none, []⟩).filter fun n => (((pars ⟨[], a2, none, [], [], none, []⟩).zip us).lookup n).isNone) = [] := by
    rw [List.filter_eq_nil_iff]
    intro n hm
    obtain ⟨i, hi, rfl⟩ := List.getElem_of_mem hm
    rw [zip_look hn hl hi]
    simp
  have hz := zip_all hn hl
  unfold pars at hl hm hz ⊢
  unfold bindArgs
  simp only [PySem.W.fnOf, List.map_nil, List.nil_append, List.append_nil, pure_bind, List.forIn_nil]
  generalize List.map (fun x => x.arg) a2 = ps at *
  rw [show seqItems? Value.none = pure none from rfl, pure_bind]
  simp only [Option.getD_none, List.drop_nil, List.length_nil, Nat.sub_zero, hl, gt_iff_lt, Nat.lt_irrefl, decide_false, Bool.false_and, Bool.false_eq_true, if_false, List.take_length, hm, List.isEmpty_nil, Bool.not_true, List.zip_nil_right, List.forIn_nil, pure_bind, hz]

/-! ### the top -/
def Pg.fa (p : Pg) (K : PySem.W.Frag) (f : Nat) : Addr := match p.fds.lookup f with
  | some fd => He.ga K fd.name
  | none => 0
def Pg.ca (p : Pg) (K : PySem.W.Frag) (c : Nat) : Addr := match p.ax.lookup c with
  | some x => He.ga K x
  | none => 0
def Pg.Fa (p : Pg) (K : PySem.W.Frag) (P : Program) (w : World) : NW.Fa := ⟨p.fa K, P, w, fun c => (p.ax.lookup c).isSome, fun f => (p.fds.lookup f).isSome⟩
theorem mem_look {β : Type} {a : Nat} {b : β} : ∀ {l : List (Nat × β)}, l.lookup a = some b → (a, b) ∈ l
  | [], h => by simp at h
  | (c, d) :: l, h => by
    rw [List.lookup_cons] at h
    split at h
    · rename_i e
      cases h
      rw [eq_of_beq e]
      exact List.mem_cons_self ..
    · exact List.mem_cons_of_mem _ (mem_look h)
theorem look_app {β : Type} {a : Nat} {b : β} : ∀ {l m : List (Nat × β)}, l.lookup a = some b → (l ++ m).lookup a = some b
  | [], _, h => by simp at h
  | (c, d) :: l, m, h => by
    rw [List.lookup_cons] at h
    rw [List.cons_append, List.lookup_cons]
    split at h
    · exact h
    · exact look_app h
theorem okDefs_get {T : Tb} : ∀ {fds : List (Nat × FD)} {ds : List He.DefD}, okDefs T fds ds = true → ∀ {f : Nat} {fd : FD}, (f, fd) ∈ fds →
    ∃ d, d ∈ ds ∧ fd.name = d.name ∧ (d.dfl = [] ∧ d.kwd = []) ∧ d.at_ = (d.name, none) ∧ parsOk d.params = true ∧ fdC T fd d.params d.body d.scope = true
  | [], _, _, _, _, h => by simp at h
  | (n, fd) :: fds, [], h, _, _, _ => by simp only [okDefs] at h; cases h
  | (n, fd) :: fds, d :: ds, h, f, fd', hf => by
    simp only [okDefs, Bool.and_eq_true, decide_eq_true_eq] at h
    obtain ⟨h1, h2, h3, h4, h5, h6⟩ := h
    rcases List.mem_cons.mp hf with e | hf
    · cases e
      exact ⟨d, List.mem_cons_self .., h1, h2, h3, h4, h5⟩
    · obtain ⟨d', m, r⟩ := okDefs_get h6 hf
      exact ⟨d', List.mem_cons_of_mem _ m, r⟩
section
variable {p : Pg} {Pr P : Program} {w : World} {K : PySem.W.Frag} {mg : Str → Option Value} {base : Heap}
theorem def_at (ok : okDefs p.T p.fds (p.defs Pr) = true) (c : SaysN p Pr K) {f : Nat} {fd : FD} (hf : p.fds.lookup f = some fd) :
    ∃ (d : He.DefD) (fdat : FuncData), FunD K d.name d.qual d.params d.body d.scope [] [] (p.fa K f) fdat ∧ fd.name = d.name ∧ parsOk d.params = true ∧ fdC p.T fd d.params d.body d.scope = true ∧ fd.N.take fd.np = pars d.params ∧ (pars d.params).length = fd.np ∧ (pars d.params).Nodup := by
  obtain ⟨d, m, h1, h2, h3, h4, h5⟩ := okDefs_get ok (mem_look hf)
  obtain ⟨fdat, F⟩ := c.d.defs (List.mem_append_left _ m)
  have ea : He.fAd K d.at_ = p.fa K f := by
    rw [h3]
    unfold Pg.fa
    rw [hf]
    show He.ga K d.name = He.ga K fd.name
    rw [h1]
  have e1 : d.dvs K = [] := by unfold He.DefD.dvs; rw [h2.1]; rfl
  have e2 : d.kws K = [] := by unfold He.DefD.kws; rw [h2.2]; rfl
  rw [ea, e1, e2] at F
  have h5' := h5
  unfold fdC at h5
  simp only [Bool.and_eq_true, decide_eq_true_eq] at h5
  refine ⟨d, fdat, F, h1, h4, h5', h5.1, h5.2.1, ?_⟩
  have nd := (fnScope_by h5.2.2.1).nd
  rw [← h5.1]
  exact nd.sublist (List.take_sublist ..)
theorem top_all (ok : okDefs p.T p.fds (p.defs Pr) = true) (c : SaysN p Pr K) (KX : K.In base) (G : base.Ns mainGlobals mg) : ∀ k, Top p.T (p.Fa K P w) (p.ca K) k P w K mg base := by
  have blt : ∀ x, x ∈ bltNames → mg x = none := fun x hx => He.free_ok KX G (c.d.facts (f := .free x) (List.mem_append_right _ (List.mem_map.mpr ⟨x, hx, rfl⟩)))
  have cst : ∀ x d, p.T.cst x = some d → ∃ v u, mg x = some u ∧ RelV v u ∧ ∀ A H, Rep K (p.Fa K P w) A H v d := fun x d h => by
    have hm : (x, d) ∈ p.cs := PySem.mem_of_lookup h
    have hc := c.c hm
    unfold cstB at hc
    split at hc
    · rename_i u hu
      obtain ⟨v, r1, r2⟩ := valB_ok (fa := p.Fa K P w) hc
      exact ⟨v, u, PySem.W.mg_of KX G hu, r1, r2⟩
    · cases hc
  have tys : ∀ t : Ty, mg (Str.ofString t.nm) = none := fun t => blt _ (by cases t <;> decide +kernel)
  have glo : ∀ f fd, p.fds.lookup f = some fd → mg fd.name = some (.ref (p.fa K f)) := fun f fd hf => by
    have := He.glo_ok KX G (c.d.facts (f := .glo fd.name) (List.mem_append_left _ (List.mem_map.mpr ⟨(f, fd), mem_look hf, rfl⟩)))
    rw [this]
    unfold Pg.fa
    rw [hf]
  have xcs : ∀ c x, p.T.xc c = some x → mg x = some (.ref (p.ca K c)) ∧ PySem.W.excIn K (p.ca K c) excBases "ValueError.__new__" = true ∧ PySem.W.keepIn K (.ref (p.ca K c)) = true ∧ PySem.W.subIn K (.ref (p.ca K c)) (.type "BaseException") = some true ∧ PySem.W.typeIn K (.ref (p.ca K c)) = some (.type "type") := fun cl x h => by
    have h' : p.xs.lookup cl = some x := h
    have ec : p.ca K cl = He.ga K x := by unfold Pg.ca Pg.ax; rw [look_app h']
    have q := c.t.2.1 _ (mem_look h')
    unfold xcB at q
    simp only [Bool.and_eq_true, beq_iff_eq] at q
    obtain ⟨q1, q2, q3, q4, q5⟩ := q
    rw [ec]
    exact ⟨PySem.W.mg_of KX G q1, q2, q3, q4, q5⟩
  have xrg : ∀ c x, p.T.xc c = some x → (p.Fa K P w).x c = true := fun cl x h => by
    have h' : p.xs.lookup cl = some x := h
    show (p.ax.lookup cl).isSome = true
    unfold Pg.ax
    rw [look_app h']; rfl
  have xis : ∀ c x f, p.T.xi c = some (x, f) → mg x = some (.ref (p.ca K c)) ∧ (p.Fa K P w).x c = true ∧ XiOk P w K mg base (p.ca K c) f := fun cl x f h => by
    have h' : (p.xi.lookup cl).map (fun q => (q.1, q.2.1)) = some (x, f) := h
    obtain ⟨⟨x', f', n⟩, hq, e⟩ := Option.map_eq_some_iff.mp h'
    obtain ⟨rfl, rfl⟩ : x' = x ∧ f' = f := by simpa using e
    have hm := mem_look hq
    have q := c.t.2.2.1 _ hm
    unfold xiB at q
    simp only [Bool.and_eq_true, beq_iff_eq, decide_eq_true_eq] at q
    obtain ⟨q1, q2, q3, q4, q5, q6, q7, q8, q9, q10, q11⟩ := q
    have ec : p.ca K cl = He.ga K x' := by unfold Pg.ca; rw [q1]
    rw [ec]
    refine ⟨PySem.W.mg_of KX G q2, by show (p.ax.lookup cl).isSome = true; rw [q1]; rfl, oexB_ok q3, q4, xfB_ok q5, ?_⟩
    obtain ⟨fdat, F⟩ := c.d.defs (List.mem_append_right _ (List.mem_map.mpr ⟨_, hm, rfl⟩))
    have hi := q10
    unfold initB at hi
    simp only [Bool.and_eq_true, decide_eq_true_eq] at hi
    have e1 : (Pg.idef Pr (cl, x', f', n)).dvs K = [] := by unfold He.DefD.dvs; rw [hi.1.1]; rfl
    have e2 : (Pg.idef Pr (cl, x', f', n)).kws K = [] := by unfold He.DefD.kws; rw [hi.1.2]; rfl
    have ea : He.fAd K (Pg.idef Pr (cl, x', f', n)).at_ = He.ma K (He.ga K x') "__init__" := by rw [q11]; rfl
    rw [ea, e1, e2] at F
    obtain ⟨ps, p1, p2, p3, p4, p5⟩ := init_ok (P := P) (w := w) (mg := mg) (base := base) q10 F (oexB_ok q3) q4 (PySem.W.mg_of KX G q8) (baseB_ok q9)
    refine ⟨_, fdat, ps, p1, q6, q7, ?_, p5⟩
    rw [p2]
    exact F.bindsN fun _ _ _ _ _ _ us hl => binds_any p3 (p2 ▸ p4) us hl
  have exm : ∀ c c' x', (p.Fa K P w).x c = true → (p.T.xc c' = some x' ∨ ∃ f, p.T.xi c' = some (x', f)) → PySem.W.exmOne K (.ref (p.ca K c)) (.ref (p.ca K c')) = some (decide (c = c')) := fun c1 c2 x2 h h2 => by
    obtain ⟨x1, h1⟩ := Option.isSome_iff_exists.mp (show (p.ax.lookup c1).isSome = true from h)
    have h2' : p.ax.lookup c2 = some x2 := by
      rcases h2 with h2 | ⟨f, h2⟩
      · have h2 : p.xs.lookup c2 = some x2 := h2
        exact look_app h2
      · have h2 : (p.xi.lookup c2).map (fun q => (q.1, q.2.1)) = some (x2, f) := h2
        obtain ⟨⟨x', f', n⟩, hq, e⟩ := Option.map_eq_some_iff.mp h2
        cases e
        have q := c.t.2.2.1 _ (mem_look hq)
        unfold xiB at q
        simp only [Bool.and_eq_true, decide_eq_true_eq] at q
        exact q.1
    have e1 : p.ca K c1 = He.ga K x1 := by unfold Pg.ca; rw [h1]
    have e2 : p.ca K c2 = He.ga K x2 := by unfold Pg.ca; rw [h2']
    have q := c.t.2.2.2
    unfold exB at q
    have q' := List.all_eq_true.mp (List.all_eq_true.mp q _ (mem_look h1)) _ (mem_look h2')
    rw [e1, e2]
    exact beq_iff_eq.mp q'
  intro k
  induction k with
  | zero =>
    refine ⟨fun f fd hf => ?_, cst, blt, tys, rfl, rfl, xcs, xrg, xis, fun _ => rfl, exm⟩
    obtain ⟨d, fdat, F, h1, h4, h5, h6, h7, h8⟩ := def_at ok c hf
    have no : ∀ vs H Q E, ¬ spF p.T K (p.Fa K P w) (p.ca K) 0 f vs H Q E := fun vs H Q E ⟨_, _, _, _, _, _, h⟩ => by simp only [callN] at h; exact h
    refine ⟨by rw [h6, h7], fdat, glo f fd hf, F.kp, ?_, ⟨fun vs H Q E h => absurd h (no vs H Q E), fun A outer s H args us vs Q E _ _ _ _ h => absurd h (no vs H Q E)⟩⟩
    rw [h6]
    exact F.bindsN fun _ _ _ _ _ _ us hl => binds_any h4 h8 us hl
  | succ k ih =>
    refine ⟨fun f fd hf => ?_, cst, blt, tys, rfl, rfl, xcs, xrg, xis, fun _ => rfl, exm⟩
    obtain ⟨d, fdat, F, h1, h4, h5, h6, h7, h8⟩ := def_at ok c hf
    refine ⟨by rw [h6, h7], fdat, glo f fd hf, F.kp, ?_, fd_ok ih hf h5 F⟩
    rw [h6]
    exact F.bindsN fun _ _ _ _ _ _ us hl => binds_any h4 h8 us hl
end
/-- the end of a law -/
theorem law_end {l : PySem.W.OpenLaw} {n k m lf : Nat} {q : Program} {loose : List Str} {XP : (Str → Option Value) → Heap → Prop} {d : DefRec} {p : Pg} {fdl : FD} {x : Str}
    (hn : l.most = some n) (hn2 : n ≤ sizeLine) (hdf : d.params.defaults = []) (hr : Room (k + 1 + 4) callerA) (ok : okDefs p.T p.fds (p.defs l.prog) = true) (hl : p.fds.lookup lf = some fdl) (hname : d.name = fdl.name) (hpar : fdl.N.take fdl.np = [x])
    (run : ∀ ns : List Int, ns.length ≤ n → (∀ z ∈ ns, Builtin.Int.intBits z ≤ 1048576) → ∃ S, callN p.T.fn (k + 1) lf [.scr ns] [] = .ok (.bl true) S) :
    PySem.W.WalkO q loose XP (hookN m p l.prog).says l.row.toRowW d [] (fun f vs => PySem.call f vs) := by
  refine Att.attach_callB hn hdf fun w s₀ s₁ mg mb fa o pm cd doc a vs ns G Y ho hd hcd hmg hobj hints hlen hbits hg => ?_
  obtain ⟨K, KX, c⟩ := Y
  obtain ⟨dd, fdat, F, h1, h4, h5, h6, h7, h8⟩ := def_at ok c hl
  have ef : fa = p.fa K lf := by
    have t : Top p.T (p.Fa K l.prog w) (p.ca K) 0 l.prog w K mg s₁.heap := top_all ok c KX G.T.g 0
    obtain ⟨_, fdat, e, _⟩ := t.fns lf fdl hl
    rw [hname, e] at hmg
    cases hmg
    rfl
  subst ef
  have hF : ∀ base : Heap, K.In base → base.Ns mainGlobals mg → FnOk l.prog w K mg base (L2.CX l.prog w) (k + 1 + 4) (p.fa K lf) fdat [x] (spF p.T K (p.Fa K l.prog w) (p.ca K) (k + 1) lf) := fun base KB GB => by
    have Fk := fd_ok (P := l.prog) (w := w) (top_all ok c KB GB k) hl h5 F
    rw [hpar] at Fk
    exact Fk
  refine law_call (CX := L2.CX l.prog w) KX G.T.g G.T.b G.T.builtins G.T.nolimit hg hobj hints (Nat.le_trans hlen hn2) hr hF (fun s u => ?_) (fun H hO hS => ?_) (fun H e s' h => ?_)
  · have b := F.bindsA (ps := pars dd.params) (fun _ _ _ _ _ _ us hl => binds_any h4 h8 us hl) s [u] (by rw [← h6, hpar]; rfl)
    rw [← h6, hpar] at b
    exact b
  · obtain ⟨S, hS2⟩ := run ns hlen hbits
    refine ⟨⟨fdl, hl, by rw [hpar]; rfl⟩, ⟨[], []⟩, [], [.scr ns], ⟨rfl, .nil, fun _ _ h => by simp at h, fun _ h => by simp at h⟩, .cons ?_ .nil, ?_⟩
    · rcases hS with h | h
      · exact .scr h (by simp) (by simp)
      · exact .kscr h
    · rw [hS2]
      intro v H' A' e s r
      cases r
      rfl
  · obtain ⟨_, _, _, _, _, _, _, _, _, _, _, _, z⟩ := h
    exact z
end NW
end
section
/- Reckoning with the evaluator. -/
namespace NW
open PySem

/-! ### an answer that is as wanted -/
inductive EPX {α : Type} : R α → (α → Store → Prop) → (Xc → Store → Prop) → Prop where
  | ok {a : α} {S : Store} {Q : α → Store → Prop} {W : Xc → Store → Prop} : Q a S → EPX (.ok a S) Q W
  | exc {x : Xc} {S : Store} {Q : α → Store → Prop} {W : Xc → Store → Prop} : W x S → EPX (.exc x S) Q W
inductive SPX : SR → (Env → Store → Prop) → (D → Store → Prop) → (Env → Store → Prop) → (Xc → Env → Store → Prop) → Prop where
  | nx {G : Env} {S : Store} {N Bk : Env → Store → Prop} {Rt : D → Store → Prop} {W : Xc → Env → Store → Prop} : N G S → SPX (.fl .nx G S) N Rt Bk W
  | ret {d : D} {G : Env} {S : Store} {N Bk : Env → Store → Prop} {Rt : D → Store → Prop} {W : Xc → Env → Store → Prop} : Rt d S → SPX (.fl (.ret d) G S) N Rt Bk W
  | brk {G : Env} {S : Store} {N Bk : Env → Store → Prop} {Rt : D → Store → Prop} {W : Xc → Env → Store → Prop} : Bk G S → SPX (.fl .brk G S) N Rt Bk W
  | exc {x : Xc} {G : Env} {S : Store} {N Bk : Env → Store → Prop} {Rt : D → Store → Prop} {W : Xc → Env → Store → Prop} : W x G S → SPX (.exc x G S) N Rt Bk W
abbrev EP {α : Type} (r : R α) (Q : α → Store → Prop) : Prop := EPX r Q fun _ _ => False
abbrev SP (r : SR) (N : Env → Store → Prop) (Rt : D → Store → Prop) (Bk : Env → Store → Prop) : Prop := SPX r N Rt Bk fun _ _ _ => False
section
variable {α β : Type} {C : Calls} {G : Env} {S S1 : Store} {Q : D → Store → Prop} {N Bk : Env → Store → Prop} {Rt : D → Store → Prop} {W : Xc → Store → Prop} {V : Xc → Env → Store → Prop}
theorem EPX.monoX {r : R α} {Q Q' : α → Store → Prop} {W W' : Xc → Store → Prop} (h : EPX r Q W) (i : ∀ a S, Q a S → Q' a S) (j : ∀ x S, W x S → W' x S) : EPX r Q' W' := by
  cases h with
  | ok h => exact .ok (i _ _ h)
  | exc h => exact .exc (j _ _ h)
theorem EPX.mono {r : R α} {Q Q' : α → Store → Prop} {W : Xc → Store → Prop} (h : EPX r Q W) (i : ∀ a S, Q a S → Q' a S) : EPX r Q' W := h.monoX i fun _ _ z => z
theorem SPX.monoX {r : SR} {N' Bk' : Env → Store → Prop} {Rt' : D → Store → Prop} {V V' : Xc → Env → Store → Prop} (h : SPX r N Rt Bk V) (i : ∀ G S, N G S → N' G S) (j : ∀ d S, Rt d S → Rt' d S) (l : ∀ G S, Bk G S → Bk' G S) (m : ∀ x G S, V x G S → V' x G S) : SPX r N' Rt' Bk' V' := by
  cases h with
  | nx h => exact .nx (i _ _ h)
  | ret h => exact .ret (j _ _ h)
  | brk h => exact .brk (l _ _ h)
  | exc h => exact .exc (m _ _ _ h)
theorem SPX.mono {r : SR} {N' Bk' : Env → Store → Prop} {Rt' : D → Store → Prop} (h : SPX r N Rt Bk V) (i : ∀ G S, N G S → N' G S) (j : ∀ d S, Rt d S → Rt' d S) (l : ∀ G S, Bk G S → Bk' G S) : SPX r N' Rt' Bk' V := h.monoX i j l fun _ _ _ z => z
theorem EP.mono {r : R α} {Q Q' : α → Store → Prop} (h : EP r Q) (i : ∀ a S, Q a S → Q' a S) : EP r Q' := EPX.mono h i
theorem SP.mono {r : SR} {N' Bk' : Env → Store → Prop} {Rt' : D → Store → Prop} (h : SP r N Rt Bk) (i : ∀ G S, N G S → N' G S) (j : ∀ d S, Rt d S → Rt' d S) (l : ∀ G S, Bk G S → Bk' G S) : SP r N' Rt' Bk' := SPX.mono h i j l
theorem EP.ok {r : R α} {Q : α → Store → Prop} (h : EP r Q) : ∃ a S, r = .ok a S ∧ Q a S := by
  cases h with
  | ok h => exact ⟨_, _, rfl, h⟩
  | exc h => exact h.elim
@[simp] theorem EP_ok {a : α} {Q : α → Store → Prop} : EPX (.ok a S) Q W ↔ Q a S := ⟨fun h => (by cases h; assumption), .ok⟩
@[simp] theorem EP_exc {x : Xc} {Q : α → Store → Prop} : EPX (.exc x S) Q W ↔ W x S := ⟨fun h => (by cases h; assumption), .exc⟩
@[simp] theorem EP_bad {Q : α → Store → Prop} : EPX .bad Q W ↔ False := ⟨fun h => (by cases h), fun h => h.elim⟩
@[simp] theorem SP_nx : SPX (.fl .nx G S) N Rt Bk V ↔ N G S := ⟨fun h => (by cases h; assumption), .nx⟩
@[simp] theorem SP_ret {d : D} : SPX (.fl (.ret d) G S) N Rt Bk V ↔ Rt d S := ⟨fun h => (by cases h; assumption), .ret⟩
@[simp] theorem SP_brk : SPX (.fl .brk G S) N Rt Bk V ↔ Bk G S := ⟨fun h => (by cases h; assumption), .brk⟩
@[simp] theorem SP_exc {x : Xc} : SPX (.exc x G S) N Rt Bk V ↔ V x G S := ⟨fun h => (by cases h; assumption), .exc⟩
@[simp] theorem SP_bad : SPX .bad N Rt Bk V ↔ False := ⟨fun h => (by cases h), fun h => h.elim⟩
@[simp] theorem EP_bind {r : R α} {f : α → Store → R β} {Q : β → Store → Prop} : EPX (r.bind f) Q W ↔ EPX r (fun a S => EPX (f a S) Q W) W := by cases r <;> simp [R.bind]
@[simp] theorem EP_tst {r : R D} {f : Bool → Store → R D} : EPX (tst r f) Q W ↔ EPX r (fun d S => ∃ b, d = .bl b ∧ EPX (f b S) Q W) W := by
  unfold tst
  rw [EP_bind]
  cases r with
  | ok a S => cases a <;> simp [-Bool.exists_bool]
  | exc _ _ => simp
  | bad => simp
@[simp] theorem EP_opt {o : Option α} {Q : α → Store → Prop} : EPX (R.opt o S) Q W ↔ ∃ a, o = some a ∧ Q a S := by
  cases o with
  | none => simp [R.opt]
  | some a => simp [R.opt]
@[simp] theorem EP_map {γ δ : Type} {o : Option γ} {f : γ → δ} {Q : δ → Store → Prop} : EPX (R.opt (o.map f) S) Q W ↔ ∃ a, o = some a ∧ Q (f a) S := by
  cases o with
  | none => simp [R.opt]
  | some a => simp [R.opt]
@[simp] theorem EP_if {p : Prop} [Decidable p] {r : R α} {Q : α → Store → Prop} : EPX (if p then r else .bad) Q W ↔ p ∧ EPX r Q W := by
  by_cases h : p
  · simp [h]
  · simp [h]
@[simp] theorem bind_ok {a : α} {f : α → Store → R β} : (R.ok a S).bind f = f a S := rfl
@[simp] theorem opt_some {a : α} : R.opt (some a) S = .ok a S := rfl
@[simp] theorem toS_ok {a : α} {f : α → Store → SR} : (R.ok a S).toS G f = f a S := rfl
@[simp] theorem tst_bl {b : Bool} {f : Bool → Store → R D} : tst (.ok (.bl b) S) f = f b S := rfl
@[simp] theorem SP_toS {r : R α} {f : α → Store → SR} : SPX (r.toS G f) N Rt Bk V ↔ EPX r (fun a S => SPX (f a S) N Rt Bk V) (fun x S => V x G S) := by cases r <;> simp [R.toS]
theorem EP_congr {r : R α} {Q Q' : α → Store → Prop} {W : Xc → Store → Prop} (h : ∀ a S, Q a S ↔ Q' a S) : EPX r Q W ↔ EPX r Q' W := iff_of_eq (congrArg (fun q => EPX r q W) (funext fun a => funext fun S => propext (h a S)))
/-! ### statements -/
@[simp] theorem SP_nil : SPX (evSs C .nil G S) N Rt Bk V ↔ N G S := by simp [evSs]
@[simp] theorem SP_cons {s : NW.S} {ss : Ss} : SPX (evSs C (.cons s ss) G S1) N Rt Bk V ↔ SPX (evS C s G S1) (fun G2 S2 => SPX (evSs C ss G2 S2) N Rt Bk V) Rt Bk V := by
  simp only [evSs]
  cases evS C s G S1 with
  | fl f G S => cases f <;> simp
  | exc _ _ _ => simp
  | bad => simp
@[simp] theorem SP_set {i : Nat} {e : E} : SPX (evS C (.set i e) G S) N Rt Bk V ↔ EPX (evE C e G S) (fun d S1 => N (setV G i d) S1) (fun x S => V x G S) := by simp [evS]
@[simp] theorem SP_ret' {e : E} : SPX (evS C (.ret e) G S) N Rt Bk V ↔ EPX (evE C e G S) Rt (fun x S => V x G S) := by simp [evS]
@[simp] theorem SP_exp {e : E} : SPX (evS C (.exp e) G S) N Rt Bk V ↔ EPX (evE C e G S) (fun _ S1 => N G S1) (fun x S => V x G S) := by simp [evS]
@[simp] theorem SP_raise {c : Nat} {m : Str} : SPX (evS C (.raise c m) G S) N Rt Bk V ↔ V ⟨c, []⟩ G S := by simp [evS]
theorem SP_try {b : Ss} {hs : List (Nat × Hb)} : SPX (evS C (.try_ b hs) G S) N Rt Bk V ↔ SPX (evSs C b G S) N Rt Bk (fun x G2 S2 => match hs.lookup x.cls with
    | some (.ret c) => Rt c.d S2
    | some (.set i c) => N (setV G2 i c.d) S2
    | none => V x G2 S2) := by
  simp only [evS]
  cases evSs C b G S with
  | fl f G S => cases f <;> simp
  | bad => simp
  | exc x G2 S2 =>
    simp only [SP_exc]
    cases hs.lookup x.cls with
    | none => simp
    | some h => cases h <;> simp
@[simp] theorem SP_raiseE {c : Nat} {f : Str} {e : E} : SPX (evS C (.raiseE c f e) G S) N Rt Bk V ↔ EPX (evE C e G S) (fun d S1 => V ⟨c, [(f, d)]⟩ G S1) (fun x S => V x G S) := by simp [evS]
theorem SP_tryAs {b : Ss} {c j : Nat} {h : Ha} : SPX (evS C (.tryAs b c j h) G S) N Rt Bk V ↔ SPX (evSs C b G S) N Rt Bk (fun x G2 S2 => SPX (caughtAs c j h x G2 S2) N Rt Bk V) := by
  simp only [evS]
  cases evSs C b G S with
  | fl f G S => cases f <;> simp
  | bad => simp
  | exc x G2 S2 => simp only [SP_exc]
@[simp] theorem SP_brk' : SPX (evS C .brk G S) N Rt Bk V ↔ Bk G S := by simp [evS]
@[simp] theorem SP_ife {c : E} {a b : Ss} : SPX (evS C (.ife c a b) G S) N Rt Bk V ↔ EPX (evE C c G S) (fun d S1 => ∃ t, d = .bl t ∧ SPX (evSs C (cond t a b) G S1) N Rt Bk V) (fun x S => V x G S) := by
  simp only [evS, SP_toS]
  refine EP_congr fun d S1 => ?_
  cases d with
  | bl t => cases t <;> simp [-Bool.exists_bool]
  | _ => simp
@[simp] theorem SP_setT {is : List Nat} {e : E} : SPX (evS C (.setT is e) G S) N Rt Bk V ↔ EPX (evE C e G S) (fun d S1 => ∃ G2, setTg G (.tup is) d = some G2 ∧ N G2 S1) (fun x S => V x G S) := by
  simp only [evS, SP_toS]
  refine EP_congr fun d S1 => ?_
  cases setTg G (.tup is) d <;> simp
@[simp] theorem SP_par {is : List Nat} {es : Es} : SPX (evS C (.par is es) G S) N Rt Bk V ↔ EPX (evEs C es G S) (fun ds S1 => ∃ G2, setVs G is ds = some G2 ∧ N G2 S1) (fun x S => V x G S) := by
  simp only [evS, SP_toS]
  refine EP_congr fun d S1 => ?_
  cases setVs G is d <;> simp
@[simp] theorem SP_setI {o i e : E} : SPX (evS C (.setI o i e) G S) N Rt Bk V ↔ EPX (evE C e G S) (fun d S1 => EPX (evE C o G S1) (fun x S2 => EPX (evE C i G S2) (fun y S3 => ∃ S4, setItemD S3 x y d = some S4 ∧ N G S4) (fun x S => V x G S)) (fun x S => V x G S)) (fun x S => V x G S) := by
  simp only [evS, SP_toS]
  refine EP_congr fun d S1 => EP_congr fun x S2 => EP_congr fun y S3 => ?_
  cases setItemD S3 x y d <;> simp
@[simp] theorem SP_app {o e : E} : SPX (evS C (.app o e) G S) N Rt Bk V ↔ EPX (evE C o G S) (fun x S1 => (listOf S1 x).isSome = true ∧ EPX (evE C e G S1) (fun d S2 => ∃ S3, appD S2 x d = some S3 ∧ N G S3) (fun x S => V x G S)) (fun x S => V x G S) := by
  simp only [evS, SP_toS]
  refine EP_congr fun d S1 => ?_
  by_cases h : (listOf S1 d).isSome = true
  · rw [if_pos h, SP_toS]
    simp only [h, true_and]
    refine EP_congr fun a S => ?_
    cases appD S d a <;> simp
  · rw [if_neg h]
    simp [h]
/-- a for: by an invariant over the items still to come -/
theorem SP_forGo {tg : Tg} {b : MS} {src : Src} (I : List D → Env → Store → Prop) (hst : ∀ xs G S, I xs G S → src.stays S = true) (hd : ∀ G S, I [] G S → N G S)
    (hs : ∀ x xs G S, I (x :: xs) G S → ∃ G2, setTg G tg x = some G2 ∧ SPX (b G2 S) (I xs) Rt N V) : ∀ xs G S, I xs G S → SPX (forGo tg b src xs G S) N Rt Bk V
  | [], G, S, h => by
    simp only [forGo]
    rw [if_pos (hst _ _ _ h)]
    exact .nx (hd _ _ h)
  | x :: xs, G, S, h => by
    simp only [forGo]
    rw [if_pos (hst _ _ _ h)]
    obtain ⟨G2, h1, h2⟩ := hs _ _ _ _ h
    rw [h1]
    dsimp only
    generalize b G2 S = r at h2
    cases h2 with
    | nx h => exact SP_forGo I hst hd hs xs _ _ h
    | ret h => exact .ret h
    | brk h => exact .nx h
    | exc h => exact .exc h
/-- a walk over a dict with text keys -/
theorem SP_forK {tg : Tg} {i n : Nat} {b : Ss} {kvs : List (Str × D)} (hi : G[i]? = some (some (.loc n))) (hn : S[n]? = some (.dks false kvs))
    (h : SPX (forGo tg (evSs C b) ⟨kvs.map fun p => .str p.1, none⟩ (kvs.map fun p => .str p.1) G (S.set n (.dks true kvs))) (fun G2 S2 => ∃ kvs2, S2[n]? = some (.dks true kvs2) ∧ N G2 (S2.set n (.dks false kvs2))) (fun d S2 => ∃ kvs2, S2[n]? = some (.dks true kvs2) ∧ Rt d (S2.set n (.dks false kvs2))) (fun G2 S2 => ∃ kvs2, S2[n]? = some (.dks true kvs2) ∧ Bk G2 (S2.set n (.dks false kvs2))) V) :
    SPX (evS C (.forK tg i b) G S) N Rt Bk V := by
  simp only [evS, hi, hn]
  generalize forGo tg (evSs C b) ⟨kvs.map fun p => .str p.1, none⟩ (kvs.map fun p => .str p.1) G (S.set n (.dks true kvs)) = r at h
  cases h with
  | nx h => obtain ⟨k, e, h⟩ := h; simp only [e]; exact .nx h
  | ret h => obtain ⟨k, e, h⟩ := h; simp only [e]; exact .ret h
  | brk h => obtain ⟨k, e, h⟩ := h; simp only [e]; exact .brk h
  | exc h => exact .exc h
@[simp] theorem SP_for {tg : Tg} {it : NW.It} {b : Ss} : SPX (evS C (.for_ tg it b) G S) N Rt Bk V ↔ EPX (evI C it G S) (fun src S1 => SPX (forGo tg (evSs C b) src src.items G S1) N Rt Bk V) (fun x S => V x G S) := by simp [evS]
/-- a while: by an invariant and a measure -/
theorem SP_whlGo {c : ME} {b : MS} (I : Nat → Env → Store → Prop) (hs : ∀ n G S, I n G S → EPX (c G S) (fun d S1 => (d = .bl false ∧ N G S1) ∨ (d = .bl true ∧ SPX (b G S1) (fun G2 S2 => ∃ m, m < n ∧ I m G2 S2) Rt N V)) (fun x S => V x G S)) :
    ∀ k n G S, n < k → I n G S → SPX (whlGo c b k G S) N Rt Bk V
  | 0, n, _, _, h, _ => absurd h (Nat.not_lt_zero _)
  | k + 1, n, G, S, h, i => by
    simp only [whlGo]
    rw [SP_toS]
    refine (hs n G S i).mono fun d S1 q => ?_
    rcases q with ⟨rfl, q⟩ | ⟨rfl, q⟩
    · exact .nx q
    · dsimp only
      generalize b G S1 = r at q
      cases q with
      | nx q =>
        obtain ⟨m, hm, q⟩ := q
        exact SP_whlGo I hs k m _ _ (by omega) q
      | ret h => exact .ret h
      | brk h => exact .nx h
      | exc h => exact .exc h
theorem SP_whl {c : E} {b : Ss} (I : Nat → Env → Store → Prop) {n : Nat} (hn : n < whlMost) (h0 : I n G S)
    (hs : ∀ n G S, I n G S → EPX (evE C c G S) (fun d S1 => (d = .bl false ∧ N G S1) ∨ (d = .bl true ∧ SPX (evSs C b G S1) (fun G2 S2 => ∃ m, m < n ∧ I m G2 S2) Rt N V)) (fun x S => V x G S)) : SPX (evS C (.whl c b) G S) N Rt Bk V := by
  simp only [evS]
  exact SP_whlGo I hs _ n G S hn h0
/-- the def f of the program is this one, but for its names -/
def Is (T : Nat → Option FD) (f : Nat) (fd : FD) : Prop := ∃ fd', T f = some fd' ∧ fd'.body = fd.body ∧ fd'.np = fd.np ∧ fd'.N.length = fd.N.length ∧ fd'.tr = fd.tr
/-- a def's call -/
theorem EP_call {T : Nat → Option FD} {k f : Nat} {fd : FD} {ds : List D} (hf : Is T f fd) (hn : ds.length = fd.np) (ht : fd.tr = false) (h : SPX (evSs (callN T k) fd.body (startE fd.N.length ds) S) (fun _ S1 => Q .non S1) Q (fun _ _ => False) (fun x _ S => W x S)) : EPX (callN T (k + 1) f ds S) Q W := by
  obtain ⟨fd', hf, e1, e2, e3, e4⟩ := hf
  simp only [callN, hf, hn, e1, e2, e3, e4, if_true]
  generalize evSs (callN T k) fd.body (startE fd.N.length ds) S = r at h
  cases h with
  | nx h => simp only [endCall, ht]; exact .ok h
  | ret h => simp only [endCall, ht]; exact .ok h
  | brk h => exact h.elim
  | exc h => exact .exc h
/-- the same, where the depth that is left has a bound -/
theorem EP_callB {T : Nat → Option FD} {k f : Nat} {fd : FD} {ds : List D} (hf : Is T f fd) (hk : 0 < k) (hn : ds.length = fd.np) (ht : fd.tr = false) (h : SPX (evSs (callN T (k - 1)) fd.body (startE fd.N.length ds) S) (fun _ S1 => Q .non S1) Q (fun _ _ => False) (fun x _ S => W x S)) : EPX (callN T k f ds S) Q W := by
  obtain ⟨j, rfl⟩ : ∃ j, k = j + 1 := ⟨k - 1, by omega⟩
  exact EP_call hf hn ht h
/-- a call of a def that lets its own objects go -/
theorem EP_callT {T : Nat → Option FD} {k f : Nat} {fd : FD} {ds : List D} (hf : Is T f fd) (hk : 0 < k) (hn : ds.length = fd.np) (ht : fd.tr = true) (h : SPX (evSs (callN T (k - 1)) fd.body (startE fd.N.length ds) S) (fun _ _ => False) (fun d S1 => ∃ d' S', letGo S.length S S1 d = some (d', S') ∧ Q d' S') (fun _ _ => False) (fun x _ S => W x S)) : EPX (callN T k f ds S) Q W := by
  obtain ⟨j, rfl⟩ : ∃ j, k = j + 1 := ⟨k - 1, by omega⟩
  obtain ⟨fd', hf, e1, e2, e3, e4⟩ := hf
  rw [Nat.add_sub_cancel] at h
  simp only [callN, hf, hn, e1, e2, e3, e4, if_true]
  generalize evSs (callN T j) fd.body (startE fd.N.length ds) S = r at h
  cases h with
  | nx h => exact h.elim
  | ret h =>
    obtain ⟨d', S', h1, h2⟩ := h
    simp only [endCall, ht, if_true, h1]
    exact .ok h2
  | brk h => exact h.elim
  | exc h => exact .exc h
theorem Ob.same_refl : ∀ a : Ob, Ob.same a a = true
  | .lst xs => by simp only [Ob.same]; exact D.sameL_refl xs
  | .dct xs => by simp only [Ob.same, D.sameL_refl, Bool.and_self]
  | .dks f xs => by simp [Ob.same, D.sameL_refl]
theorem letGo_int {X : Store} {i : Int} : letGo S.length S (S ++ X) (.int i) = some (.int i, S) := by
  have e : (S ++ X).take S.length = S := List.take_left
  unfold letGo
  rw [e, if_pos]
  · show (if D.under S.length (.int i) = true then some (D.int i, S) else none) = _
    rw [if_pos (by simp only [D.under])]
  · simp only [beq_self_eq_true, Bool.true_and, List.all_eq_true, List.mem_range]
    intro j hj
    rw [List.getElem?_append_left hj, List.getElem?_eq_getElem hj]
    simp only [Ob.same_refl, Bool.true_or]
theorem EP.to {r : R α} {Q Q' : α → Store → Prop} {W' : Xc → Store → Prop} (h : EP r Q) (i : ∀ a S, Q a S → Q' a S) : EPX r Q' W' := h.monoX i fun _ _ z => z.elim
theorem SP.to {r : SR} {N' Bk' : Env → Store → Prop} {Rt' : D → Store → Prop} {V' : Xc → Env → Store → Prop} (h : SP r N Rt Bk) (i : ∀ G S, N G S → N' G S) (j : ∀ d S, Rt d S → Rt' d S) (l : ∀ G S, Bk G S → Bk' G S) : SPX r N' Rt' Bk' V' := h.monoX i j l fun _ _ _ z => z.elim
theorem EP_pure {r : R α} {a : α} (h : EP r fun a' S' => a' = a ∧ S' = S) : r = .ok a S := by
  cases h with
  | ok h => obtain ⟨rfl, rfl⟩ := h; rfl
  | exc h => exact h.elim
theorem EP_raise {r : R α} {x : Xc} (h : EPX r (fun _ _ => False) fun x' S' => x' = x ∧ S' = S) : r = .exc x S := by
  cases h with
  | exc h => obtain ⟨rfl, rfl⟩ := h; rfl
  | ok h => exact h.elim

/-! ### expressions -/
section
variable {a b c i : E} {es : Es} {e : E}
@[simp] theorem EP_var {i : Nat} : EPX (evE C (.var i) G S) Q W ↔ ∃ d, (G[i]?).bind id = some d ∧ Q d S := by simp [evE]
@[simp] theorem EP_bin {op : Operator} : EPX (evE C (.bin op a b) G S) Q W ↔ EPX (evE C a G S) (fun x S1 => EPX (evE C b G S1) (fun y S2 => ∃ d, binOp op S2 x y = some d ∧ Q d S2) W) W := by simp [evE]
@[simp] theorem EP_neg : EPX (evE C (.neg a) G S) Q W ↔ EPX (evE C a G S) (fun x S1 => ∃ d, negD x = some d ∧ Q d S1) W := by simp [evE]
@[simp] theorem EP_cmp {op : CmpOp} : EPX (evE C (.cmp op a b) G S) Q W ↔ EPX (evE C a G S) (fun x S1 => EPX (evE C b G S1) (fun y S2 => ∃ t, cmpOp op S2 x y = some t ∧ Q (.bl t) S2) W) W := by
  simp only [evE, EP_bind, EP_map]
@[simp] theorem EP_chn {op op' : CmpOp} : EPX (evE C (.chn op op' a b c) G S) Q W ↔ EPX (evE C a G S) (fun x S1 => EPX (evE C b G S1) (fun y S2 => ∃ t, cmpOp op S2 x y = some t ∧ EPX (cond t ((evE C c G S2).bind fun z S3 => R.opt ((cmpOp op' S3 y z).map .bl) S3) (.ok (.bl false) S2)) Q W) W) W := by
  simp [evE]
@[simp] theorem EP_not : EPX (evE C (.not a) G S) Q W ↔ EPX (evE C a G S) (fun d S1 => ∃ t, d = .bl t ∧ Q (.bl (!t)) S1) W := by simp [evE]
@[simp] theorem EP_ite : EPX (evE C (.ite c a b) G S) Q W ↔ EPX (evE C c G S) (fun d S1 => ∃ t, d = .bl t ∧ EPX (evE C (cond t a b) G S1) Q W) W := by
  simp only [evE, EP_tst]
  refine EP_congr fun d S1 => exists_congr fun t => and_congr_right fun _ => ?_
  cases t <;> rfl
@[simp] theorem EP_tup : EPX (evE C (.tup es) G S) Q W ↔ EPX (evEs C es G S) (fun ds S1 => ds.length ≤ lineN ∧ Q (.tup ds) S1) W := by
  simp only [evE, EP_bind, EP_if, EP_ok]
@[simp] theorem EP_lst : EPX (evE C (.lst es) G S) Q W ↔ EPX (evEs C es G S) (fun ds S1 => ds.length ≤ lineN ∧ Q (.lst ds) S1) W := by
  simp only [evE, EP_bind, EP_if, EP_ok]
@[simp] theorem EP_nlst : EPX (evE C (.nlst es) G S) Q W ↔ EPX (evEs C es G S) (fun ds S1 => ds.length ≤ lineN ∧ Q (.loc S1.length) (S1 ++ [.lst ds])) W := by
  simp only [evE, EP_bind, EP_if, EP_ok]
@[simp] theorem EP_idx : EPX (evE C (.idx a i) G S) Q W ↔ EPX (evE C a G S) (fun x S1 => EPX (evE C i G S1) (fun y S2 => ∃ d, idxOp S2 x y = some d ∧ Q d S2) W) W := by simp [evE]
@[simp] theorem EP_sl {lo hi : Oe} : EPX (evE C (.sl a lo hi) G S) Q W ↔ EPX (evE C a G S) (fun x S1 => EPX (evO C lo G S1) (fun l S2 => EPX (evO C hi G S2) (fun h S3 => ∃ d, slOp S3 x l h = some d ∧ Q d S3) W) W) W := by simp [evE]
@[simp] theorem EP_callE {f : Nat} : EPX (evE C (.call f es) G S) Q W ↔ EPX (evEs C es G S) (fun ds S1 => EPX (C f ds S1) Q W) W := by simp [evE]
@[simp] theorem EP_cb {f : Bf} : EPX (evE C (.cb f es) G S) Q W ↔ EPX (evEs C es G S) (fun ds S1 => ∃ d, callB f S1 ds = some d ∧ Q d S1) W := by simp [evE]
@[simp] theorem EP_isi {t : Ty} : EPX (evE C (.isi a t) G S) Q W ↔ EPX (evE C a G S) (fun x S1 => ∃ b, NW.isi S1 x t = some b ∧ Q (.bl b) S1) W := by simp only [evE, EP_bind, EP_map]
@[simp] theorem EP_comp {own : List Nat} {tg : Tg} {it : NW.It} {c : Oe} : EPX (evE C (.comp e own tg it c) G S) Q W ↔ EPX (evI C it G S) (fun src S1 => EPX (compGo tg (evC C c) (evE C e) src (wipeE G own) src.items [] S1) Q W) W := by simp [evE]
@[simp] theorem EP_and1 : EPX (evAnd C (.cons e .nil) G S) Q W ↔ EPX (evE C e G S) Q W := by rw [evAnd_one]
@[simp] theorem EP_and2 {e2 : E} : EPX (evAnd C (.cons e (.cons e2 es)) G S) Q W ↔ EPX (evE C e G S) (fun d S1 => ∃ t, d = .bl t ∧ EPX (cond t (evAnd C (.cons e2 es) G S1) (.ok (.bl false) S1)) Q W) W := by rw [evAnd_more, EP_tst]
@[simp] theorem EP_or1 : EPX (evOr C (.cons e .nil) G S) Q W ↔ EPX (evE C e G S) Q W := by rw [evOr_one]
@[simp] theorem EP_or2 {e2 : E} : EPX (evOr C (.cons e (.cons e2 es)) G S) Q W ↔ EPX (evE C e G S) (fun d S1 => ∃ t, d = .bl t ∧ EPX (cond t (.ok (.bl true) S1) (evOr C (.cons e2 es) G S1)) Q W) W := by rw [evOr_more, EP_tst]
@[simp] theorem EP_and : EPX (evE C (.and es) G S) Q W ↔ EPX (evAnd C es G S) Q W := by simp [evE]
@[simp] theorem EP_or : EPX (evE C (.or es) G S) Q W ↔ EPX (evOr C es G S) Q W := by simp [evE]
@[simp] theorem EP_non : EPX (evE C .non G S) Q W ↔ Q .non S := by simp [evE]
@[simp] theorem EP_bl {b : Bool} : EPX (evE C (.bl b) G S) Q W ↔ Q (.bl b) S := by simp [evE]
@[simp] theorem EP_int {i : Int} : EPX (evE C (.int i) G S) Q W ↔ Q (.int i) S := by simp [evE]
@[simp] theorem EP_str {x : Str} : EPX (evE C (.str x) G S) Q W ↔ Q (.str x) S := by simp [evE]
@[simp] theorem EP_cst {x : Str} {d : D} : EPX (evE C (.cst x d) G S) Q W ↔ Q d S := by simp [evE]
@[simp] theorem EP_esn {Q : List D → Store → Prop} : EPX (evEs C .nil G S) Q W ↔ Q [] S := by simp [evEs]
@[simp] theorem EP_esc {Q : List D → Store → Prop} : EPX (evEs C (.cons e es) G S) Q W ↔ EPX (evE C e G S) (fun d S1 => EPX (evEs C es G S1) (fun ds S2 => Q (d :: ds) S2) W) W := by simp [evEs]
@[simp] theorem EP_on {Q : Option Int → Store → Prop} : EPX (evO C .none G S) Q W ↔ Q none S := by simp [evO]
@[simp] theorem EP_os {Q : Option Int → Store → Prop} : EPX (evO C (.some e) G S) Q W ↔ EPX (evE C e G S) (fun d S1 => ∃ i, partOf d = some i ∧ Q (some i) S1) W := by simp [evO]
@[simp] theorem EP_ie {Q : Src → Store → Prop} : EPX (evI C (.e e) G S) Q W ↔ EPX (evE C e G S) (fun d S1 => ∃ s, srcOf S1 d = some s ∧ Q s S1) W := by simp [evI]
@[simp] theorem EP_rng {Q : Src → Store → Prop} : EPX (evI C (.rng e) G S) Q W ↔ EPX (evE C e G S) (fun d S1 => ∃ s, rngSrc (.int 0) d = some s ∧ Q s S1) W := by simp [evI]
@[simp] theorem EP_rng2 {Q : Src → Store → Prop} : EPX (evI C (.rng2 a b) G S) Q W ↔ EPX (evE C a G S) (fun d S1 => EPX (evE C b G S1) (fun d2 S2 => ∃ s, rngSrc d d2 = some s ∧ Q s S2) W) W := by simp [evI]
@[simp] theorem EP_enum {Q : Src → Store → Prop} : EPX (evI C (.enum e) G S) Q W ↔ EPX (evE C e G S) (fun d S1 => ∃ s, enumSrc S1 d = some s ∧ Q s S1) W := by simp [evI]
@[simp] theorem EP_zip {Q : Src → Store → Prop} : EPX (evI C (.zip a b) G S) Q W ↔ EPX (evE C a G S) (fun d S1 => EPX (evE C b G S1) (fun d2 S2 => ∃ s, zipSrc S2 d d2 = some s ∧ Q s S2) W) W := by simp [evI]
@[simp] theorem EP_dnew : EPX (evE C .dnew G S) Q W ↔ Q (.loc S.length) (S ++ [.dct []]) := by simp [evE]
@[simp] theorem EP_dnewS : EPX (evE C .dnewS G S) Q W ↔ Q (.loc S.length) (S ++ [.dks false []]) := by simp [evE]
@[simp] theorem EP_split : EPX (evE C (.split a b) G S) Q W ↔ EPX (evE C a G S) (fun x S1 => ∃ z, strOf x = some z ∧ EPX (evE C b G S1) (fun y S2 => ∃ d, splitD z y = some d ∧ Q d S2) W) W := by simp [evE]
@[simp] theorem EP_join : EPX (evE C (.join a b) G S) Q W ↔ EPX (evE C a G S) (fun x S1 => ∃ z, strOf x = some z ∧ EPX (evE C b G S1) (fun y S2 => ∃ d, joinD S2 z y = some d ∧ Q d S2) W) W := by simp [evE]
@[simp] theorem EP_fnv {f : Nat} : EPX (evE C (.fnv f) G S) Q W ↔ Q (.fn f) S := by simp [evE]
@[simp] theorem EP_lcall {i : Nat} : EPX (evE C (.lcall i es) G S) Q W ↔ ∃ f, fnOf G i = some f ∧ EPX (evEs C es G S) (fun ds S1 => EPX (C f ds S1) Q W) W := by simp [evE]
@[simp] theorem EP_pick {ks : List Str} {kx : E} : EPX (evE C (.pick ks es kx) G S) Q W ↔ EPX (evEs C es G S) (fun ds S1 => pickOk ks ds.length = true ∧ EPX (evE C kx G S1) (fun d S2 => ∃ e, pickD ks ds d = some e ∧ Q e S2) W) W := by
  simp only [evE, EP_bind, EP_if, EP_opt]
@[simp] theorem evC_none : evC C .none = none := by simp [evC]
@[simp] theorem evC_some : evC C (.some e) = some (evE C e) := by simp [evC]
end
end
/-! ### comprehensions that change nothing -/
theorem compGo_pure {tg : Tg} {c : Option ME} {elt : ME} {src : Src} {G : Env} {S : Store} (p : D → Bool) (f : D → D) (hst : src.stays S = true) :
    ∀ (xs acc : List D), acc.length + xs.length ≤ lineN → (∀ x ∈ xs, ∃ G2, setTg G tg x = some G2 ∧ (match c with
      | none => p x = true
      | some c' => c' G2 S = .ok (.bl (p x)) S) ∧ (p x = true → elt G2 S = .ok (f x) S)) → compGo tg c elt src G xs acc S = .ok (.lst (acc ++ (xs.filter p).map f)) S
  | [], acc, _, _ => by simp only [compGo, hst, if_true]; simp
  | x :: xs, acc, hl, h => by
    obtain ⟨G2, h1, h2, h3⟩ := h x List.mem_cons_self
    have hlt : acc.length < lineN := by simp at hl; omega
    have ih := fun acc' hl' => compGo_pure p f hst xs acc' hl' fun y hy => h y (List.mem_cons_of_mem _ hy)
    simp only [compGo, hst, hlt, decide_true, Bool.and_self, if_true, h1, compTurn]
    cases c with
    | none =>
      dsimp only at h2 ⊢
      rw [h3 h2]
      simp only [noEx]
      rw [ih _ (by simp at hl ⊢; omega), List.filter_cons_of_pos h2]
      simp
    | some c' =>
      dsimp only at h2 ⊢
      rw [h2]
      simp only [noEx]
      by_cases hp : p x = true
      · rw [hp]
        dsimp only
        rw [h3 hp]
        dsimp only
        rw [ih _ (by simp at hl ⊢; omega), List.filter_cons_of_pos hp]
        simp
      · rw [Bool.eq_false_iff.mpr hp]
        dsimp only
        rw [ih _ (by simp at hl ⊢; omega), List.filter_cons_of_neg hp]
theorem compGo_map {tg : Tg} {elt : ME} {G : Env} {S : Store} {xs : List D} (f : D → D) (hl : xs.length ≤ lineN) (h : ∀ x ∈ xs, ∃ G2, setTg G tg x = some G2 ∧ elt G2 S = .ok (f x) S) :
    compGo tg none elt ⟨xs, none⟩ G xs [] S = .ok (.lst (xs.map f)) S := by
  have := compGo_pure (tg := tg) (c := none) (elt := elt) (src := ⟨xs, none⟩) (G := G) (S := S) (fun _ => true) f rfl xs [] (by simpa using hl) fun x hx => let ⟨G2, h1, h2⟩ := h x hx; ⟨G2, h1, rfl, fun _ => h2⟩
  rw [this, List.nil_append, List.filter_eq_self.mpr fun _ _ => rfl]
/-- a comprehension: by an invariant over the items still to come and what is made -/
theorem EP_compGo {tg : Tg} {c : Option ME} {elt : ME} {src : Src} {G : Env} {Q : D → Store → Prop} {W : Xc → Store → Prop} (I : List D → List D → Store → Prop) (hst : ∀ xs acc S, I xs acc S → src.stays S = true) (hd : ∀ acc S, I [] acc S → Q (.lst acc) S)
    (hs : ∀ x xs acc S, I (x :: xs) acc S → ∃ G2, setTg G tg x = some G2 ∧ (match c with
      | none => EP (elt G2 S) fun d S' => I xs (acc ++ [d]) S'
      | some c' => EP (c' G2 S) fun t S1 => (t = .bl true ∧ EP (elt G2 S1) fun d S' => I xs (acc ++ [d]) S') ∨ (t = .bl false ∧ I xs acc S1))) :
    ∀ (xs acc : List D) (S : Store), acc.length + xs.length ≤ lineN → I xs acc S → EPX (compGo tg c elt src G xs acc S) Q W
  | [], acc, S, _, i => by
    simp only [compGo]
    rw [if_pos (hst _ _ _ i)]
    exact .ok (hd _ _ i)
  | x :: xs, acc, S, hl, i => by
    obtain ⟨G2, h1, h2⟩ := hs x xs acc S i
    have hlt : acc.length < lineN := by simp at hl; omega
    simp only [compGo, hst _ _ _ i, hlt, decide_true, Bool.and_self, if_true, h1, compTurn]
    cases c with
    | none =>
      dsimp only at h2 ⊢
      obtain ⟨d, S', e, i'⟩ := EP.ok h2
      rw [e]
      exact EP_compGo I hst hd hs xs _ _ (by simp at hl ⊢; omega) i'
    | some c' =>
      dsimp only at h2 ⊢
      obtain ⟨t, S1, e, q⟩ := EP.ok h2
      rw [e]
      rcases q with ⟨rfl, q⟩ | ⟨rfl, q⟩
      · obtain ⟨d, S', e, i'⟩ := EP.ok q
        simp only [noEx]
        rw [e]
        exact EP_compGo I hst hd hs xs _ _ (by simp at hl ⊢; omega) i'
      · simp only [noEx]
        exact EP_compGo I hst hd hs xs _ _ (by simp at hl ⊢; omega) q
theorem EPX.eq {α : Type} {r : R α} {a : α} {S : Store} {Q : α → Store → Prop} {W : Xc → Store → Prop} (h : r = .ok a S) (q : Q a S) : EPX r Q W := by rw [h]; exact .ok q
end NW
end
section
/- The operations, by what they are asked of. -/
namespace NW
open PySem
section
variable {S : Store} {i j : Int} {xs ys ds : List D} {x y : Str} {d : D} {b : Bool} {n : Nat}
@[simp] theorem startE_eq : startE n ds = ds.map some ++ List.replicate (n - ds.length) none := rfl
@[simp] theorem bin_int {op : Operator} : binOp op S (.int i) (.int j) = (binInt op i j).map .int := rfl
@[simp] theorem bin_tup {op : Operator} : binOp op S (.tup xs) (.tup ys) = binTup op xs ys := rfl
@[simp] theorem bin_lst {op : Operator} : binOp op S (.lst xs) (.lst ys) = binLst op xs ys := rfl
@[simp] theorem bin_str : binOp .Add S (.str x) (.str y) = if x.length + y.length ≤ lineN then some (.str (x ++ y)) else none := by
  simp only [binOp, true_and]
@[simp] theorem bin_rept : binOp .Mult S (.tup xs) (.int j) = repTup xs j := rfl
@[simp] theorem bin_repl : binOp .Mult S (.lst xs) (.int j) = repLst xs j := rfl
@[simp] theorem bi_add : binInt .Add i j = some (i + j) := rfl
@[simp] theorem bi_sub : binInt .Sub i j = some (i - j) := rfl
@[simp] theorem bi_mul : binInt .Mult i j = if mulOk i j then some (i * j) else none := rfl
@[simp] theorem bi_div : binInt .FloorDiv i j = if divOk j then some (i / j) else none := rfl
@[simp] theorem bi_mod : binInt .Mod i j = if 0 < j then some (i % j) else none := rfl
@[simp] theorem bi_pow : binInt .Pow i j = if powOk i j then some (i ^ j.toNat) else none := rfl
@[simp] theorem bt_add : binTup .Add xs ys = if xs.length + ys.length ≤ lineN then some (.tup (xs ++ ys)) else none := rfl
@[simp] theorem bl_add : binLst .Add xs ys = if xs.length + ys.length ≤ lineN then some (.lst (xs ++ ys)) else none := rfl
@[simp] theorem neg_int : negD (.int i) = some (.int (-i)) := rfl
@[simp] theorem part_int : partOf (.int i) = some i := rfl
theorem mulOk_r {i j : Int} (h1 : -(2 ^ 64) < j) (h2 : j < 2 ^ 64) : mulOk i j = true := by
  unfold mulOk
  simp only [Bool.or_eq_true, decide_eq_true_eq]
  exact .inr (.inl ⟨h1, h2⟩)
theorem mulOk_l {i j : Int} (h1 : -(2 ^ 64) < i) (h2 : i < 2 ^ 64) : mulOk i j = true := by
  unfold mulOk
  simp only [Bool.or_eq_true, decide_eq_true_eq]
  exact .inl ⟨h1, h2⟩
theorem divOk_s {j : Int} (h1 : 0 < j) (h2 : j < 1073741824) : divOk j = true := by
  unfold divOk
  simp only [Bool.and_eq_true, Bool.or_eq_true, decide_eq_true_eq]
  exact ⟨h1, .inl h2⟩
/-! comparisons -/
@[simp] theorem flat_int : flat S (.int i) = .int i := rfl
@[simp] theorem flat_str : flat S (.str x) = .str x := rfl
@[simp] theorem flat_tup : flat S (.tup xs) = .tup xs := rfl
@[simp] theorem flat_lst : flat S (.lst xs) = .lst xs := rfl
@[simp] theorem flat_non : flat S .non = .non := rfl
@[simp] theorem flat_bl : flat S (.bl b) = .bl b := rfl
theorem flat_ok (h : d.ok = true) : flat S d = d := by cases d <;> first | rfl | (simp only [D.ok] at h; cases h)
@[simp] theorem cmp_lt : cmpOp .Lt S (.int i) (.int j) = some (decide (i < j)) := rfl
@[simp] theorem cmp_le : cmpOp .LtE S (.int i) (.int j) = some (decide (i ≤ j)) := rfl
@[simp] theorem cmp_gt : cmpOp .Gt S (.int i) (.int j) = some (decide (j < i)) := rfl
@[simp] theorem cmp_ge : cmpOp .GtE S (.int i) (.int j) = some (decide (j ≤ i)) := rfl
theorem cmp_eq {a c : D} : cmpOp .Eq S a c = if eqOk (flat S a) (flat S c) then some (D.eqv (flat S a) (flat S c)) else none := rfl
theorem cmp_ne {a c : D} : cmpOp .NotEq S a c = if eqOk (flat S a) (flat S c) then some (!D.eqv (flat S a) (flat S c)) else none := rfl
@[simp] theorem dct_tup : dctOf S (.tup xs) = none := rfl
@[simp] theorem dct_lst : dctOf S (.lst xs) = none := rfl
@[simp] theorem dct_scr {ns : List Int} : dctOf S (.scr ns) = none := rfl
@[simp] theorem dks_tup : dksOf S (.tup xs) = none := rfl
@[simp] theorem dks_lst : dksOf S (.lst xs) = none := rfl
@[simp] theorem dks_scr {ns : List Int} : dksOf S (.scr ns) = none := rfl
theorem dks_loc {f : Bool} {kvs : List (Str × D)} (h : S[n]? = some (.dks f kvs)) : dksOf S (.loc n) = some kvs := by simp only [dksOf, h]
theorem inDks_none {a c : D} (h : dksOf S c = none) : inDks S a c = none := by unfold inDks; rw [h]
theorem dct_loc {kvs : List (D × D)} (h : S[n]? = some (.dct kvs)) : dctOf S (.loc n) = some kvs := by simp only [dctOf, h]
theorem cmp_in {a c : D} (h : dctOf S c = none) (h2 : dksOf S c = none) : cmpOp .In S a c = (seqOf S c).bind fun ds => if inOk (flat S a) ds then some (ds.any fun z => D.eqv z (flat S a)) else none := by simp only [cmpOp, h, inDks_none h2]
theorem cmp_nin {a c : D} (h : dctOf S c = none) (h2 : dksOf S c = none) : cmpOp .NotIn S a c = (seqOf S c).bind fun ds => if inOk (flat S a) ds then some (!ds.any fun z => D.eqv z (flat S a)) else none := by simp only [cmpOp, h, inDks_none h2]
theorem cmp_sin {f : Bool} {kvs : List (Str × D)} (h : S[n]? = some (.dks f kvs)) : cmpOp .In S (.str x) (.loc n) = some (sfind kvs x).isSome := by simp only [cmpOp, dctOf, inDks, dksOf, h]
theorem cmp_snin {f : Bool} {kvs : List (Str × D)} (h : S[n]? = some (.dks f kvs)) : cmpOp .NotIn S (.str x) (.loc n) = some (!(sfind kvs x).isSome) := by simp only [cmpOp, dctOf, inDks, dksOf, h]
theorem idx_dks {f : Bool} {kvs : List (Str × D)} (h : S[n]? = some (.dks f kvs)) : idxOp S (.loc n) (.str x) = sfind kvs x := by
  show ((dksOf S (.loc n)).bind fun kvs => sfind kvs x) = _
  rw [dks_loc h]; rfl
theorem set_dks {kvs : List (Str × D)} (h : S[n]? = some (.dks false kvs)) (hl : kvs.length < lineN) : setItemD S (.loc n) (.str x) d = some (S.set n (.dks false (sput kvs x d))) := by
  simp only [setItemD, h, hl, if_true]
theorem len_dks {f : Bool} {kvs : List (Str × D)} (h : S[n]? = some (.dks f kvs)) : callB .len S [.loc n] = some (.int kvs.length) := by
  simp only [callB, dksOf, h]
theorem sorted_dks {f : Bool} {kvs : List (Str × D)} (h : S[n]? = some (.dks f kvs)) (hl : kvs.length < 64) : callB .sorted S [.loc n] = some (.lst ((sortS (kvs.map (·.1))).map .str)) := by
  simp only [callB, dksOf, h, hl, if_true]
@[simp] theorem strOf_str : strOf (.str x) = some x := rfl
@[simp] theorem split_str : splitD x (.str y) = if (y.length == 0) = false ∧ x.length + 2 ≤ lineN then some (.lst ((Txt.split x y).map .str)) else none := rfl
@[simp] theorem allStr_map : ∀ ys : List Str, allStr (ys.map .str) = some ys
  | [] => rfl
  | y :: ys => by simp only [List.map_cons, allStr, allStr_map ys, Option.map_some]
@[simp] theorem join_lst : joinD S x (.lst ds) = (allStr ds).bind fun ys => if (ys.map (·.length)).sum + ys.length * x.length ≤ 16777216 then some (.str (Txt.join x ys)) else none := rfl
@[simp] theorem int_str : callB .int S [.str x] = if x.length ≤ 640 then (PySem.intText? x).map .int else none := rfl
@[simp] theorem str_str : callB .str S [.str x] = some (.str x) := rfl
@[simp] theorem str_int : callB .str S [.int i] = if i.natAbs.log2 < 1920 then some (.str (Str.ofString (toString i))) else none := rfl
@[simp] theorem sl_str' {l h : Option Int} : slOp S (.str x) l h = if x.length ≤ lineN then some (.str (L2.cutS x l h)) else none := rfl
theorem cmp_din {a : D} {kvs : List (D × D)} (h : S[n]? = some (.dct kvs)) (hk : keyOk a = true) : cmpOp .In S a (.loc n) = some (dfind kvs a).isSome := by simp only [cmpOp, dct_loc h, hk, if_true]
theorem cmp_dnin {a : D} {kvs : List (D × D)} (h : S[n]? = some (.dct kvs)) (hk : keyOk a = true) : cmpOp .NotIn S a (.loc n) = some (!(dfind kvs a).isSome) := by simp only [cmpOp, dct_loc h, hk, if_true]
theorem idx_dct {kvs : List (D × D)} (h : S[n]? = some (.dct kvs)) (hk : keyOk (.tup xs) = true) : idxOp S (.loc n) (.tup xs) = dfind kvs (.tup xs) := by
  show ((dctOf S (.loc n)).bind fun kvs => if keyOk (.tup xs) then dfind kvs (.tup xs) else none) = _
  rw [dct_loc h]
  show (if keyOk (.tup xs) = true then dfind kvs (.tup xs) else none) = _
  rw [if_pos hk]
@[simp] theorem cmp_is {a : D} : cmpOp .Is S a .non = some (isNone a) := rfl
@[simp] theorem cmp_isn {a : D} : cmpOp .IsNot S a .non = some (!isNone a) := rfl
@[simp] theorem isNone_non : isNone .non = true := rfl
@[simp] theorem isNone_int : isNone (.int i) = false := rfl
@[simp] theorem isNone_tup : isNone (.tup xs) = false := rfl
@[simp] theorem isNone_lst : isNone (.lst xs) = false := rfl
@[simp] theorem isNone_str : isNone (.str x) = false := rfl
@[simp] theorem isNone_bl : isNone (.bl b) = false := rfl
@[simp] theorem seq_tup : seqOf S (.tup ds) = some ds := rfl
@[simp] theorem seq_lst : seqOf S (.lst ds) = some ds := rfl
@[simp] theorem seq_scr {ns : List Int} : seqOf S (.scr ns) = some (ns.map .int) := rfl
@[simp] theorem list_lst : listOf S (.lst ds) = some ds := rfl
theorem list_loc (h : S[n]? = some (.lst ds)) : listOf S (.loc n) = some ds := by simp only [listOf, h]
theorem seq_loc (h : S[n]? = some (.lst ds)) : seqOf S (.loc n) = some ds := by simp only [seqOf, listOf, h]
@[simp] theorem idx_tup : idxOp S (.tup ds) (.int j) = atD ds j := rfl
@[simp] theorem idx_lst : idxOp S (.lst ds) (.int j) = atD ds j := rfl
theorem idx_loc (h : S[n]? = some (.lst ds)) : idxOp S (.loc n) (.int j) = atD ds j := by simp only [idxOp, seqOf, listOf, h]; rfl
@[simp] theorem sl_tup {l h : Option Int} : slOp S (.tup ds) l h = some (.tup (cutD ds l h)) := rfl
@[simp] theorem sl_lst {l h : Option Int} : slOp S (.lst ds) l h = some (.lst (cutD ds l h)) := rfl
theorem atD_nat {k : Nat} (h : k < ds.length) : atD ds (k : Int) = some ds[k] := by
  unfold atD ixAt
  rw [if_pos (Int.natCast_nonneg k), if_pos (by omega)]
  simp [h]
@[simp] theorem atD_0 : atD (d :: ds) 0 = some d := by simp [atD, ixAt]
@[simp] theorem atD_1 {d2 : D} : atD (d :: d2 :: ds) 1 = some d2 := by
  have := atD_nat (ds := d :: d2 :: ds) (k := 1) (by simp)
  exact this
@[simp] theorem atD_2 {d2 d3 : D} : atD (d :: d2 :: d3 :: ds) 2 = some d3 := by
  have := atD_nat (ds := d :: d2 :: d3 :: ds) (k := 2) (by simp)
  exact this
@[simp] theorem len_str : callB .len S [.str x] = if x.length ≤ lineN then some (.int x.length) else none := rfl
@[simp] theorem len_tup : callB .len S [.tup ds] = some (.int ds.length) := rfl
@[simp] theorem len_lst : callB .len S [.lst ds] = some (.int ds.length) := rfl
@[simp] theorem len_scr {ns : List Int} : callB .len S [.scr ns] = some (.int ns.length) := by
  show some (D.int ((ns.map D.int).length : Nat)) = _
  rw [List.length_map]
theorem len_loc (h : S[n]? = some (.lst ds)) : callB .len S [.loc n] = some (.int ds.length) := by
  simp only [callB, dksOf, h, seq_loc h, Option.map_some]
@[simp] theorem int_int : callB .int S [.int i] = some (.int i) := rfl
@[simp] theorem abs_int : callB .abs S [.int i] = some (.int (if i < 0 then -i else i)) := rfl
@[simp] theorem list_tup' : callB .list S [.tup ds] = some (.lst ds) := rfl
@[simp] theorem list_lst' : callB .list S [.lst ds] = some (.lst ds) := rfl
@[simp] theorem tup_lst' : callB .tuple S [.lst ds] = some (.tup ds) := rfl
@[simp] theorem tup_tup' : callB .tuple S [.tup ds] = some (.tup ds) := rfl
@[simp] theorem min_int : callB .min S [.int i, .int j] = some (.int (if j < i then j else i)) := rfl
@[simp] theorem max_int : callB .max S [.int i, .int j] = some (.int (if j > i then j else i)) := rfl
@[simp] theorem all_lst : callB .all S [.lst ds] = (allBl ds).map fun bs => .bl (bs.all id) := rfl
theorem allBl_map {α : Type} (f : α → Bool) : ∀ l : List α, allBl (l.map fun a => D.bl (f a)) = some (l.map f)
  | [] => rfl
  | a :: l => by
    simp only [List.map_cons, allBl, allBl_map f l, Option.map_some]
/-- isinstance by kinds -/
def kindIs (t : Ty) : D → Bool
  | .bl _ => decide (t = .bool) || decide (t = .int)
  | .int _ => decide (t = .int)
  | .str _ => decide (t = .str)
  | .tup _ => decide (t = .tuple)
  | .lst _ => decide (t = .list)
  | _ => false
theorem isi_ok {t : Ty} (h : d.ok = true) : isi S d t = some (kindIs t d) := by
  unfold isi
  rw [flat_ok h]
  cases d <;> first | rfl | (simp only [D.ok] at h; cases h)
@[simp] theorem isi_tup {t : Ty} : isi S (.tup xs) t = some (decide (t = .tuple)) := rfl
@[simp] theorem isi_lst {t : Ty} : isi S (.lst xs) t = some (decide (t = .list)) := rfl
@[simp] theorem isi_str {t : Ty} : isi S (.str x) t = some (decide (t = .str)) := rfl
@[simp] theorem isi_int {t : Ty} : isi S (.int i) t = some (decide (t = .int)) := rfl
@[simp] theorem isi_bl {t : Ty} : isi S (.bl b) t = some (decide (t = .bool) || decide (t = .int)) := rfl
@[simp] theorem isi_non {t : Ty} : isi S .non t = some false := rfl
@[simp] theorem enum_lst : enumSrc S (.lst ds) = some ⟨enumD ds, none⟩ := rfl
@[simp] theorem zip_lst : zipSrc S (.lst xs) (.lst ys) = some ⟨zipD xs ys, none⟩ := rfl
@[simp] theorem zip_tup : zipSrc S (.tup xs) (.tup ys) = some ⟨zipD xs ys, none⟩ := rfl
@[simp] theorem pick_str {ks : List Str} {x : Str} : pickD ks ds (.str x) = (ks.zip ds).lookup x := rfl
@[simp] theorem sum_tup' : callB .sum S [.tup ds] = (allInt ds).map fun is => .int is.sum := rfl
@[simp] theorem sum_lst' : callB .sum S [.lst ds] = (allInt ds).map fun is => .int is.sum := rfl
@[simp] theorem sorted_lst' : callB .sorted S [.lst ds] = if sortOk ds then some (.lst (sortD ds)) else none := rfl
@[simp] theorem allInt_nil : allInt [] = some [] := rfl
@[simp] theorem allInt_cons {i : Int} : allInt (.int i :: ds) = (allInt ds).map fun is => i :: is := rfl
theorem allInt_map {α : Type} (f : α → Int) : ∀ l : List α, allInt (l.map fun a => D.int (f a)) = some (l.map f)
  | [] => rfl
  | a :: l => by
    simp only [List.map_cons, allInt, allInt_map f l, Option.map_some]
@[simp] theorem src_tup : srcOf S (.tup ds) = some ⟨ds, none⟩ := rfl
@[simp] theorem src_lst : srcOf S (.lst ds) = some ⟨ds, none⟩ := rfl
@[simp] theorem stays_none {l : List D} : (Src.mk l none).stays S = true := rfl
@[simp] theorem rng_int : rngSrc (.int i) (.int j) = if rngOk i j then some ⟨rngD i (j - i).toNat, none⟩ else none := rfl
/-! equality with a text, a number -/
@[simp] theorem eqv_str_str : D.eqv (.str x) (.str y) = (x == y) := by simp only [D.eqv]
@[simp] theorem eqv_str_tup : D.eqv (.str x) (.tup xs) = false := by simp only [D.eqv]
@[simp] theorem eqv_tup_str : D.eqv (.tup xs) (.str x) = false := by simp only [D.eqv]
@[simp] theorem eqv_tup_tup : D.eqv (.tup xs) (.tup ys) = D.eqvL xs ys := by simp only [D.eqv]
@[simp] theorem eqv_lst_lst : D.eqv (.lst xs) (.lst ys) = D.eqvL xs ys := by simp only [D.eqv]
@[simp] theorem eqv_int_int : D.eqv (.int i) (.int j) = (i == j) := by simp only [D.eqv]
@[simp] theorem eqvL_nil : D.eqvL [] [] = true := by simp only [D.eqvL]
@[simp] theorem eqvL_cons {c : D} : D.eqvL (d :: xs) (c :: ys) = (D.eqv d c && D.eqvL xs ys) := by simp only [D.eqvL]
@[simp] theorem eqvL_nc : D.eqvL [] (d :: xs) = false := by simp only [D.eqvL]
@[simp] theorem eqvL_cn : D.eqvL (d :: xs) [] = false := by simp only [D.eqvL]
theorem ok_tup : (D.tup ds).ok = D.okL ds := by simp only [D.ok]
theorem ok_lst : (D.lst ds).ok = D.okL ds := by simp only [D.ok]
theorem okL_all : ∀ {ds : List D}, D.okL ds = ds.all D.ok
  | [] => by simp only [D.okL, List.all_nil]
  | d :: ds => by simp only [D.okL, List.all_cons, okL_all (ds := ds)]
@[simp] theorem eqOk_int : eqOk (.int i) (.int j) = true := rfl
theorem eqOk_str (hx : PyData.strOk x = true) (hy : PyData.strOk y = true) : eqOk (.str x) (.str y) = true := by
  simp only [eqOk, D.ok, hx, hy, D.depth, Nat.min_self, Nat.zero_le, decide_true, Bool.and_self]
@[simp] theorem allBl_nil : allBl [] = some [] := rfl
@[simp] theorem allBl_cons : allBl (.bl b :: ds) = (allBl ds).map fun bs => b :: bs := rfl
@[simp] theorem cmp_eq_int : cmpOp .Eq S (.int i) (.int j) = some (i == j) := by
  rw [cmp_eq]
  simp
@[simp] theorem cmp_ne_int : cmpOp .NotEq S (.int i) (.int j) = some (!(i == j)) := by
  rw [cmp_ne]
  simp
/-- it is this text -/
def isS (s : Str) : D → Bool
  | .str x => x == s
  | _ => false
@[simp] theorem isS_str {s : Str} : isS s (.str x) = (x == s) := rfl
@[simp] theorem isS_tup {s : Str} : isS s (.tup xs) = false := rfl
theorem eq_sign {v : D} {s : Str} (hv : v.ok = true) (hs : PyData.strOk s = true) : cmpOp .Eq S v (.str s) = some (isS s v) := by
  rw [cmp_eq, flat_ok hv]
  have : eqOk v (.str s) = true := by
    unfold eqOk
    rw [hv]
    simp [D.ok, hs, D.depth]
  simp only [flat_str, this, if_true]
  cases v <;> simp [D.eqv, isS]
end
end NW
end
section
namespace NW
open PySem

def b_is_from : Ss := .cons (.ret (.and (.cons (.isi (.var 0) .int) (.cons (.not (.isi (.var 0) .bool)) (.cons (.chn .LtE .LtE (.var 1) (.var 0) (.var 2)) (.nil)))))) (.nil)
def f_is_from : FD := ⟨"is_from", ["value", "low", "high"], 3, b_is_from, false⟩
def b_is_pair_word : Ss := .cons (.ife (.or (.cons (.not (.isi (.var 1) .tuple)) (.cons (.cmp .NotEq (.cb .len (.cons (.var 1) (.nil))) (.int 3)) (.cons (.not (.cb .all (.cons (.comp (.isi (.var 2) .str) [2] (.name 2) (.e (.var 1)) (.none)) (.nil)))) (.nil))))) (.cons (.ret (.bl false)) (.nil)) (.nil)) (.cons (.ret (.and (.cons (.cmp .In (.idx (.var 1) (.int 0)) (.var 0)) (.cons (.cmp .In (.sl (.var 1) (.some (.int 1)) (.none)) (.cst "PAIRS" (.tup [.tup [.str "a", .str "b"], .tup [.str "b", .str "a"]]))) (.nil))))) (.nil))
def f_is_pair_word : FD := ⟨"is_pair_word", ["words", "value", "part"], 2, b_is_pair_word, false⟩
def b_is_many_word : Ss := .cons (.ife (.or (.cons (.not (.isi (.var 1) .tuple)) (.cons (.cmp .NotEq (.cb .len (.cons (.var 1) (.nil))) (.int 3)) (.cons (.not (.isi (.idx (.var 1) (.int 0)) .str)) (.nil))))) (.cons (.ret (.bl false)) (.nil)) (.nil)) (.cons (.ret (.and (.cons (.cmp .In (.idx (.var 1) (.int 0)) (.var 0)) (.cons (.call 0 (.cons (.idx (.var 1) (.int 1)) (.cons (.int 1) (.cons (.int 3) (.nil))))) (.cons (.isi (.idx (.var 1) (.int 2)) .str) (.cons (.cmp .In (.idx (.var 1) (.int 2)) (.cst "MARKS" (.tup [.str "a", .str "b", .str "both"]))) (.nil))))))) (.nil))
def f_is_many_word : FD := ⟨"is_many_word", ["words", "value"], 2, b_is_many_word, false⟩
def b_is_clause : Ss := .cons (.ret (.or (.cons (.call 1 (.cons (.tup (.cons (.str "all") (.cons (.str "some") (.cons (.str "no") (.cons (.str "allnot") (.nil)))))) (.cons (.var 0) (.nil)))) (.cons (.call 2 (.cons (.tup (.cons (.str "has") (.nil))) (.cons (.var 0) (.nil)))) (.nil))))) (.nil)
def f_is_clause : FD := ⟨"is_clause", ["value"], 1, b_is_clause, false⟩
def b_is_sign : Ss := .cons (.ife (.isi (.var 0) .str) (.cons (.ret (.or (.cons (.cmp .In (.var 0) (.cst "JOINTS" (.tup [.str "and", .str "or", .str "unless", .str "onlyif"]))) (.cons (.cmp .In (.var 0) (.tup (.cons (.str "not") (.cons (.str "(") (.cons (.str ")") (.nil)))))) (.nil))))) (.nil)) (.nil)) (.cons (.ret (.call 3 (.cons (.var 0) (.nil)))) (.nil))
def f_is_sign : FD := ⟨"is_sign", ["value"], 1, b_is_sign, false⟩
def b_row_end : Ss := .cons (.set 1 (.call 6 (.cons (.var 0) (.cons (.var 1) (.nil))))) (.cons (.whl (.and (.cons (.cmp .IsNot (.var 1) (.non)) (.cons (.cmp .Lt (.var 1) (.cb .len (.cons (.var 0) (.nil)))) (.cons (.cmp .In (.idx (.var 0) (.var 1)) (.cst "JOINTS" (.tup [.str "and", .str "or", .str "unless", .str "onlyif"]))) (.nil))))) (.cons (.set 1 (.call 6 (.cons (.var 0) (.cons (.bin .Add (.var 1) (.int 1)) (.nil))))) (.nil))) (.cons (.ret (.var 1)) (.nil)))
def f_row_end : FD := ⟨"row_end", ["signs", "at"], 2, b_row_end, false⟩
def b_part_end : Ss := .cons (.whl (.and (.cons (.cmp .Lt (.var 1) (.cb .len (.cons (.var 0) (.nil)))) (.cons (.cmp .Eq (.idx (.var 0) (.var 1)) (.str "not")) (.nil)))) (.cons (.set 1 (.bin .Add (.var 1) (.int 1))) (.nil))) (.cons (.ife (.cmp .GtE (.var 1) (.cb .len (.cons (.var 0) (.nil)))) (.cons (.ret (.non)) (.nil)) (.nil)) (.cons (.ife (.cmp .Eq (.idx (.var 0) (.var 1)) (.str "(")) (.cons (.set 1 (.call 5 (.cons (.var 0) (.cons (.bin .Add (.var 1) (.int 1)) (.nil))))) (.cons (.ret (.ite (.and (.cons (.cmp .IsNot (.var 1) (.non)) (.cons (.cmp .Lt (.var 1) (.cb .len (.cons (.var 0) (.nil)))) (.cons (.cmp .Eq (.idx (.var 0) (.var 1)) (.str ")")) (.nil))))) (.bin .Add (.var 1) (.int 1)) (.non))) (.nil))) (.nil)) (.cons (.ret (.ite (.isi (.idx (.var 0) (.var 1)) .str) (.non) (.bin .Add (.var 1) (.int 1)))) (.nil))))
def f_part_end : FD := ⟨"part_end", ["signs", "at"], 2, b_part_end, false⟩
def b_has_notice : Ss := .cons (.ife (.or (.cons (.not (.isi (.var 0) .tuple)) (.cons (.not (.chn .LtE .LtE (.int 1) (.cb .len (.cons (.var 0) (.nil))) (.cst "MOST_SIGNS" (.int (16))))) (.cons (.not (.cb .all (.cons (.comp (.call 4 (.cons (.var 1) (.nil))) [1] (.name 1) (.e (.var 0)) (.none)) (.nil)))) (.nil))))) (.cons (.ret (.bl false)) (.nil)) (.nil)) (.cons (.ife (.cmp .Gt (.cb .len (.cons (.comp (.var 1) [1] (.name 1) (.e (.var 0)) (.some (.isi (.var 1) .tuple))) (.nil))) (.cst "MOST_CLAUSES" (.int (4)))) (.cons (.ret (.bl false)) (.nil)) (.nil)) (.cons (.ret (.cmp .Eq (.call 5 (.cons (.var 0) (.cons (.int 0) (.nil)))) (.cb .len (.cons (.var 0) (.nil))))) (.nil)))
def f_has_notice : FD := ⟨"has_notice", ["value", "sign"], 1, b_has_notice, false⟩
def b_is_notice : Ss := .cons (.ret (.call 7 (.cons (.var 0) (.nil)))) (.nil)
def f_is_notice : FD := ⟨"is_notice", ["value"], 1, b_is_notice, false⟩
def b_is_house : Ss := .cons (.ret (.and (.cons (.isi (.var 0) .tuple) (.cons (.cmp .Eq (.cb .len (.cons (.var 0) (.nil))) (.int 4)) (.cons (.cb .all (.cons (.comp (.call 0 (.cons (.var 1) (.cons (.int 0) (.cons (.cst "GREAT" (.int (1000000000000000000000000000000))) (.nil))))) [1] (.name 1) (.e (.var 0)) (.none)) (.nil))) (.nil)))))) (.nil)
def f_is_house : FD := ⟨"is_house", ["value", "count"], 1, b_is_house, false⟩
def b_is_atom : Ss := .cons (.ret (.or (.cons (.call 1 (.cons (.tup (.cons (.str "all") (.cons (.str "some") (.cons (.str "no") (.nil))))) (.cons (.var 0) (.nil)))) (.cons (.call 2 (.cons (.tup (.cons (.str "least") (.cons (.str "just") (.nil)))) (.cons (.var 0) (.nil)))) (.nil))))) (.nil)
def f_is_atom : FD := ⟨"is_atom", ["value"], 1, b_is_atom, false⟩
def b_has_formula : Ss := .cons (.ife (.or (.cons (.not (.isi (.var 0) .tuple)) (.cons (.cmp .Lt (.cb .len (.cons (.var 0) (.nil))) (.int 2)) (.cons (.not (.isi (.idx (.var 0) (.int 0)) .str)) (.cons (.cmp .Eq (.var 1) (.int 0)) (.nil)))))) (.cons (.ret (.bl false)) (.nil)) (.nil)) (.cons (.ife (.cmp .Eq (.idx (.var 0) (.int 0)) (.str "not")) (.cons (.ret (.and (.cons (.cmp .Eq (.cb .len (.cons (.var 0) (.nil))) (.int 2)) (.cons (.call 11 (.cons (.idx (.var 0) (.int 1)) (.cons (.bin .Sub (.var 1) (.int 1)) (.nil)))) (.nil))))) (.nil)) (.nil)) (.cons (.ife (.cmp .In (.idx (.var 0) (.int 0)) (.tup (.cons (.str "and") (.cons (.str "or") (.cons (.str "if") (.cons (.str "other") (.nil))))))) (.cons (.ret (.and (.cons (.cmp .Eq (.cb .len (.cons (.var 0) (.nil))) (.int 3)) (.cons (.cb .all (.cons (.comp (.call 11 (.cons (.var 2) (.cons (.bin .Sub (.var 1) (.int 1)) (.nil)))) [2] (.name 2) (.e (.sl (.var 0) (.some (.int 1)) (.none))) (.none)) (.nil))) (.nil))))) (.nil)) (.nil)) (.cons (.ret (.call 10 (.cons (.var 0) (.nil)))) (.nil))))
def f_has_formula : FD := ⟨"has_formula", ["value", "deep", "part"], 2, b_has_formula, false⟩
def b_is_formula : Ss := .cons (.ret (.call 11 (.cons (.var 0) (.cons (.cst "MOST_DEEP" (.int (10))) (.nil))))) (.nil)
def f_is_formula : FD := ⟨"is_formula", ["value"], 1, b_is_formula, false⟩
def b__law_source : Ss := .cons (.set 2 (.ite (.cmp .Lt (.var 1) (.cb .len (.cons (.var 0) (.nil)))) (.cb .abs (.cons (.cb .int (.cons (.idx (.var 0) (.var 1)) (.nil))) (.nil))) (.bin .Add (.bin .Mult (.int 101) (.var 1)) (.int 47)))) (.cons (.ret (.nlst (.cons (.ite (.cmp .Gt (.var 2) (.bin .Pow (.int 10) (.int 17))) (.var 2) (.int 0)) (.cons (.bin .Mod (.cb .int (.cons (.bin .Add (.bin .Add (.bin .Mult (.var 2) (.int 16807)) (.bin .Mult (.int 10009) (.var 1))) (.int 71)) (.nil))) (.int 2147483237)) (.nil))))) (.nil))
def f__law_source : FD := ⟨"_law_source", ["_law_script", "_law_k", "_law_cell"], 2, b__law_source, false⟩
def b__law_draw : Ss := .cons (.ife (.cmp .Gt (.idx (.var 0) (.int 0)) (.int 0)) (.cons (.set 3 (.bin .Mod (.cb .int (.cons (.idx (.var 0) (.int 0)) (.nil))) (.var 1))) (.cons (.setI (.var 0) (.int 0) (.bin .FloorDiv (.idx (.var 0) (.int 0)) (.var 1))) (.cons (.ret (.var 3)) (.nil)))) (.nil)) (.cons (.setI (.var 0) (.int 1) (.bin .Mod (.cb .int (.cons (.bin .Add (.bin .Mult (.idx (.var 0) (.int 1)) (.int 48271)) (.int 83)) (.nil))) (.int 2147483237))) (.cons (.set 2 (.bin .Mod (.cb .int (.cons (.bin .Mult (.idx (.var 0) (.int 1)) (.bin .Add (.bin .FloorDiv (.idx (.var 0) (.int 1)) (.int 41)) (.int 26))) (.nil))) (.int 2147483179))) (.cons (.ret (.bin .Mod (.cb .int (.cons (.bin .FloorDiv (.var 2) (.int 32)) (.nil))) (.var 1))) (.nil))))
def f__law_draw : FD := ⟨"_law_draw", ["_law_source_here", "_law_many", "_law_wide", "_law_rest"], 2, b__law_draw, false⟩
def b__law_choice : Ss := .cons (.ret (.idx (.var 1) (.call 14 (.cons (.var 0) (.cons (.cb .len (.cons (.var 1) (.nil))) (.nil)))))) (.nil)
def f__law_choice : FD := ⟨"_law_choice", ["_law_source_here", "_law_some"], 2, b__law_choice, false⟩
def b__law_clause : Ss := .cons (.set 1 (.call 15 (.cons (.var 0) (.cons (.lst (.cons (.tup (.cons (.str "a") (.cons (.str "b") (.nil)))) (.cons (.tup (.cons (.str "b") (.cons (.str "a") (.nil)))) (.nil)))) (.nil))))) (.cons (.ife (.cmp .Lt (.call 14 (.cons (.var 0) (.cons (.int 5) (.nil)))) (.int 2)) (.cons (.ret (.tup (.cons (.str "has") (.cons (.bin .Add (.int 1) (.call 14 (.cons (.var 0) (.cons (.int 3) (.nil))))) (.cons (.call 15 (.cons (.var 0) (.cons (.lst (.cons (.str "a") (.cons (.str "b") (.cons (.str "both") (.nil))))) (.nil)))) (.nil)))))) (.nil)) (.nil)) (.cons (.ret (.bin .Add (.tup (.cons (.call 15 (.cons (.var 0) (.cons (.lst (.cons (.str "all") (.cons (.str "some") (.cons (.str "no") (.cons (.str "allnot") (.nil)))))) (.nil)))) (.nil))) (.var 1))) (.nil)))
def f__law_clause : FD := ⟨"_law_clause", ["_law_source_here", "_law_pair"], 1, b__law_clause, false⟩
def b__law_notice : Ss := .cons (.set 2 (.nlst (.nil))) (.cons (.for_ (.name 3) (.rng (.bin .Add (.int 1) (.call 14 (.cons (.var 0) (.cons (.var 1) (.nil)))))) (.cons (.set 5 (.tup (.cons (.call 17 (.cons (.var 0) (.nil))) (.nil)))) (.cons (.ife (.cmp .Eq (.call 14 (.cons (.var 0) (.cons (.int 4) (.nil)))) (.int 0)) (.cons (.set 5 (.bin .Add (.tup (.cons (.str "not") (.nil))) (.var 5))) (.nil)) (.nil)) (.cons (.app (.var 2) (.var 5)) (.nil))))) (.cons (.ife (.and (.cons (.cmp .Gt (.cb .len (.cons (.var 2) (.nil))) (.int 1)) (.cons (.cmp .Eq (.call 14 (.cons (.var 0) (.cons (.int 3) (.nil)))) (.int 0)) (.nil)))) (.cons (.set 6 (.call 14 (.cons (.var 0) (.cons (.bin .Sub (.cb .len (.cons (.var 2) (.nil))) (.int 1)) (.nil))))) (.cons (.set 7 (.call 15 (.cons (.var 0) (.cons (.lst (.cons (.str "and") (.cons (.str "or") (.cons (.str "unless") (.cons (.str "onlyif") (.nil)))))) (.nil))))) (.cons (.set 8 (.bin .Add (.bin .Add (.bin .Add (.bin .Add (.tup (.cons (.str "(") (.nil))) (.idx (.var 2) (.var 6))) (.tup (.cons (.var 7) (.nil)))) (.idx (.var 2) (.bin .Add (.var 6) (.int 1)))) (.tup (.cons (.str ")") (.nil))))) (.cons (.set 2 (.bin .Add (.bin .Add (.sl (.var 2) (.none) (.some (.var 6))) (.lst (.cons (.ite (.cmp .Eq (.call 14 (.cons (.var 0) (.cons (.int 3) (.nil)))) (.int 0)) (.bin .Add (.tup (.cons (.str "not") (.nil))) (.var 8)) (.var 8)) (.nil)))) (.sl (.var 2) (.some (.bin .Add (.var 6) (.int 2))) (.none)))) (.nil))))) (.nil)) (.cons (.set 4 (.idx (.var 2) (.int 0))) (.cons (.for_ (.name 5) (.e (.sl (.var 2) (.some (.int 1)) (.none))) (.cons (.set 4 (.bin .Add (.bin .Add (.var 4) (.tup (.cons (.call 15 (.cons (.var 0) (.cons (.lst (.cons (.str "and") (.cons (.str "and") (.cons (.str "or") (.cons (.str "or") (.cons (.str "unless") (.cons (.str "onlyif") (.nil)))))))) (.nil)))) (.nil)))) (.var 5))) (.nil))) (.cons (.ret (.var 4)) (.nil))))))
def f__law_notice : FD := ⟨"_law_notice", ["_law_source_here", "_law_most", "_law_parts", "_law_turn", "_law_found", "_law_part", "_law_at", "_law_joint", "_law_whole"], 2, b__law_notice, false⟩
def b__law_formula : Ss := .cons (.set 2 (.call 14 (.cons (.var 0) (.cons (.int 7) (.nil))))) (.cons (.ife (.and (.cons (.cmp .Gt (.var 1) (.int 1)) (.cons (.cmp .Gt (.var 2) (.int 2)) (.nil)))) (.cons (.ife (.cmp .Eq (.var 2) (.int 3)) (.cons (.ret (.tup (.cons (.str "not") (.cons (.call 19 (.cons (.var 0) (.cons (.bin .Sub (.var 1) (.int 1)) (.nil)))) (.nil))))) (.nil)) (.nil)) (.cons (.set 3 (.call 15 (.cons (.var 0) (.cons (.lst (.cons (.str "and") (.cons (.str "or") (.cons (.str "if") (.cons (.str "other") (.nil)))))) (.nil))))) (.cons (.set 4 (.call 19 (.cons (.var 0) (.cons (.bin .Sub (.var 1) (.int 1)) (.nil))))) (.cons (.ret (.tup (.cons (.var 3) (.cons (.var 4) (.cons (.call 19 (.cons (.var 0) (.cons (.bin .Sub (.var 1) (.int 1)) (.nil)))) (.nil)))))) (.nil))))) (.nil)) (.cons (.ife (.cmp .Eq (.bin .Mod (.var 2) (.int 2)) (.int 0)) (.cons (.set 3 (.call 15 (.cons (.var 0) (.cons (.lst (.cons (.str "least") (.cons (.str "just") (.nil)))) (.nil))))) (.cons (.ret (.tup (.cons (.var 3) (.cons (.bin .Add (.int 1) (.call 14 (.cons (.var 0) (.cons (.int 3) (.nil))))) (.cons (.call 15 (.cons (.var 0) (.cons (.lst (.cons (.str "a") (.cons (.str "b") (.cons (.str "both") (.nil))))) (.nil)))) (.nil)))))) (.nil))) (.nil)) (.cons (.ret (.bin .Add (.tup (.cons (.call 15 (.cons (.var 0) (.cons (.lst (.cons (.str "all") (.cons (.str "some") (.cons (.str "no") (.nil))))) (.nil)))) (.nil))) (.call 15 (.cons (.var 0) (.cons (.lst (.cons (.tup (.cons (.str "a") (.cons (.str "b") (.nil)))) (.cons (.tup (.cons (.str "b") (.cons (.str "a") (.nil)))) (.nil)))) (.nil)))))) (.nil))))
def f__law_formula : FD := ⟨"_law_formula", ["_law_source_here", "_law_deep", "_law_way", "_law_word", "_law_one"], 2, b__law_formula, false⟩
def b_case_at : Ss := .cons (.ret (.tup (.cons (.bin .FloorDiv (.var 0) (.int 125)) (.cons (.bin .Mod (.bin .FloorDiv (.var 0) (.int 25)) (.int 5)) (.cons (.bin .Mod (.bin .FloorDiv (.var 0) (.int 5)) (.int 5)) (.cons (.bin .Mod (.var 0) (.int 5)) (.nil))))))) (.nil)
def f_case_at : FD := ⟨"case_at", ["place"], 1, b_case_at, false⟩
def b_with_mark : Ss := .cons (.ife (.cmp .Eq (.var 1) (.str "both")) (.cons (.ret (.idx (.var 0) (.int 3))) (.nil)) (.nil)) (.cons (.ret (.bin .Add (.idx (.var 0) (.int 3)) (.ite (.cmp .Eq (.var 1) (.str "a")) (.idx (.var 0) (.int 1)) (.idx (.var 0) (.int 2))))) (.nil))
def f_with_mark : FD := ⟨"with_mark", ["house", "mark"], 2, b_with_mark, false⟩
def b_holds_in : Ss := .cons (.set 2 (.idx (.var 0) (.int 0))) (.cons (.ife (.cmp .Eq (.var 2) (.str "not")) (.cons (.ret (.not (.call 35 (.cons (.idx (.var 0) (.int 1)) (.cons (.var 1) (.nil)))))) (.nil)) (.nil)) (.cons (.ife (.cmp .In (.var 2) (.tup (.cons (.str "and") (.cons (.str "or") (.cons (.str "if") (.cons (.str "other") (.nil))))))) (.cons (.par [4, 5] (.cons (.call 35 (.cons (.idx (.var 0) (.int 1)) (.cons (.var 1) (.nil)))) (.cons (.call 35 (.cons (.idx (.var 0) (.int 2)) (.cons (.var 1) (.nil)))) (.nil)))) (.cons (.ife (.cmp .Eq (.var 2) (.str "and")) (.cons (.ret (.and (.cons (.var 4) (.cons (.var 5) (.nil))))) (.nil)) (.nil)) (.cons (.ife (.cmp .Eq (.var 2) (.str "or")) (.cons (.ret (.or (.cons (.var 4) (.cons (.var 5) (.nil))))) (.nil)) (.nil)) (.cons (.ret (.ite (.cmp .Eq (.var 2) (.str "if")) (.or (.cons (.var 5) (.cons (.not (.var 4)) (.nil)))) (.cmp .NotEq (.var 4) (.var 5)))) (.nil))))) (.nil)) (.cons (.ife (.cmp .Eq (.var 2) (.str "all")) (.cons (.ret (.cmp .Eq (.idx (.var 1) (.ite (.cmp .Eq (.idx (.var 0) (.int 1)) (.str "a")) (.int 1) (.int 2))) (.int 0))) (.nil)) (.nil)) (.cons (.ife (.cmp .In (.var 2) (.tup (.cons (.str "some") (.cons (.str "no") (.nil))))) (.cons (.ret (.cmp .Eq (.cmp .Gt (.idx (.var 1) (.int 3)) (.int 0)) (.cmp .Eq (.var 2) (.str "some")))) (.nil)) (.nil)) (.cons (.set 3 (.call 34 (.cons (.var 1) (.cons (.idx (.var 0) (.int 2)) (.nil))))) (.cons (.ret (.ite (.cmp .Eq (.var 2) (.str "least")) (.cmp .GtE (.var 3) (.idx (.var 0) (.int 1))) (.cmp .Eq (.var 3) (.idx (.var 0) (.int 1))))) (.nil)))))))
def f_holds_in : FD := ⟨"holds_in", ["formula", "house", "word", "many", "first", "second"], 2, b_holds_in, false⟩
def b_bits_of : Ss := .cons (.set 1 (.int 0)) (.cons (.for_ (.tup [2, 3]) (.enum (.var 0)) (.cons (.set 1 (.bin .Add (.var 1) (.ite (.var 3) (.bin .LShift (.int 1) (.var 2)) (.int 0)))) (.nil))) (.cons (.ret (.var 1)) (.nil)))
def f_bits_of : FD := ⟨"bits_of", ["truths", "found", "at", "truth"], 1, b_bits_of, false⟩
def b__law_holds : Ss := .cons (.set 2 (.idx (.var 0) (.int 0))) (.cons (.ife (.cmp .In (.var 2) (.lst (.cons (.str "not") (.cons (.str "and") (.cons (.str "or") (.cons (.str "if") (.cons (.str "other") (.nil)))))))) (.cons (.set 4 (.comp (.call 45 (.cons (.var 5) (.cons (.var 1) (.nil)))) [5] (.name 5) (.e (.sl (.var 0) (.some (.int 1)) (.none))) (.none))) (.cons (.ife (.cmp .Eq (.var 2) (.str "not")) (.cons (.ret (.not (.idx (.var 4) (.int 0)))) (.nil)) (.nil)) (.cons (.ife (.cmp .Eq (.var 2) (.str "and")) (.cons (.ret (.cmp .NotIn (.bl false) (.var 4))) (.nil)) (.nil)) (.cons (.ife (.cmp .Eq (.var 2) (.str "or")) (.cons (.ret (.cmp .In (.bl true) (.var 4))) (.nil)) (.nil)) (.cons (.ret (.ite (.cmp .Eq (.var 2) (.str "if")) (.cmp .NotEq (.var 4) (.lst (.cons (.bl true) (.cons (.bl false) (.nil))))) (.cmp .NotEq (.idx (.var 4) (.int 0)) (.idx (.var 4) (.int 1))))) (.nil)))))) (.nil)) (.cons (.ife (.cmp .Eq (.var 2) (.str "all")) (.cons (.ret (.cmp .Eq (.idx (.var 1) (.pick ["a", "b"] (.cons (.int 1) (.cons (.int 2) (.nil))) (.idx (.var 0) (.int 1)))) (.int 0))) (.nil)) (.nil)) (.cons (.ife (.cmp .In (.var 2) (.lst (.cons (.str "some") (.cons (.str "no") (.nil))))) (.cons (.ret (.cmp .Eq (.cmp .Eq (.idx (.var 1) (.int 3)) (.int 0)) (.cmp .Eq (.var 2) (.str "no")))) (.nil)) (.nil)) (.cons (.set 3 (.bin .Add (.idx (.var 1) (.int 3)) (.pick ["a", "b", "both"] (.cons (.idx (.var 1) (.int 1)) (.cons (.idx (.var 1) (.int 2)) (.cons (.int 0) (.nil)))) (.idx (.var 0) (.int 2))))) (.cons (.ret (.ite (.cmp .Eq (.var 2) (.str "least")) (.cmp .GtE (.var 3) (.idx (.var 0) (.int 1))) (.cmp .Eq (.var 3) (.idx (.var 0) (.int 1))))) (.nil))))))
def f__law_holds : FD := ⟨"_law_holds", ["_law_formula_here", "_law_house", "_law_word_here", "_law_many", "_law_truths_here", "_law_part"], 2, b__law_holds, false⟩
def b_need_notice : Ss := .cons (.ife (.not (.call 7 (.cons (.var 0) (.nil)))) (.cons (.raise 1 "not a notice") (.nil)) (.nil)) (.nil)
def f_need_notice : FD := ⟨"need_notice", ["value"], 1, b_need_notice, false⟩
def b_sign_word : Ss := .cons (.ret (.ite (.isi (.var 0) .str) (.var 0) (.join (.str "-") (.comp (.cb .str (.cons (.var 1) (.nil))) [1] (.name 1) (.e (.var 0)) (.none))))) (.nil)
def f_sign_word : FD := ⟨"sign_word", ["sign", "part"], 1, b_sign_word, false⟩
def b_text_of : Ss := .cons (.ret (.join (.str " ") (.comp (.call 122 (.cons (.var 1) (.nil))) [1] (.name 1) (.e (.var 0)) (.none)))) (.nil)
def f_text_of : FD := ⟨"text_of", ["notice", "sign"], 1, b_text_of, false⟩
def b_notice_text : Ss := .cons (.exp (.call 60 (.cons (.var 0) (.nil)))) (.cons (.ret (.call 123 (.cons (.var 0) (.nil)))) (.nil))
def f_notice_text : FD := ⟨"notice_text", ["notice"], 1, b_notice_text, false⟩
def b_read_sign : Ss := .cons (.set 1 (.split (.var 0) (.str "-"))) (.cons (.ife (.cmp .Eq (.cb .len (.cons (.var 1) (.nil))) (.int 1)) (.cons (.ret (.ite (.call 4 (.cons (.var 0) (.nil))) (.var 0) (.non))) (.nil)) (.nil)) (.cons (.set 2 (.cb .tuple (.cons (.comp (.ite (.cmp .In (.var 3) (.cst "FIGURES" (.tup [.str "1", .str "2", .str "3"]))) (.cb .int (.cons (.var 3) (.nil))) (.var 3)) [3] (.name 3) (.e (.var 1)) (.none)) (.nil)))) (.cons (.ret (.ite (.call 4 (.cons (.var 2) (.nil))) (.var 2) (.non))) (.nil))))
def f_read_sign : FD := ⟨"read_sign", ["word", "parts", "sign", "part"], 1, b_read_sign, false⟩
def b_read_notice : Ss := .cons (.ife (.not (.isi (.var 0) .str)) (.cons (.raiseE 12 "word" (.int 0)) (.nil)) (.nil)) (.cons (.set 1 (.tup (.nil))) (.cons (.for_ (.tup [2, 3]) (.enum (.split (.var 0) (.str " "))) (.cons (.set 4 (.call 125 (.cons (.var 3) (.nil)))) (.cons (.ife (.cmp .Is (.var 4) (.non)) (.cons (.raiseE 12 "word" (.bin .Add (.var 2) (.int 1))) (.nil)) (.nil)) (.cons (.set 1 (.bin .Add (.var 1) (.tup (.cons (.var 4) (.nil))))) (.nil))))) (.cons (.ife (.not (.call 7 (.cons (.var 1) (.nil)))) (.cons (.raiseE 12 "word" (.bin .Add (.cb .len (.cons (.var 1) (.nil))) (.int 1))) (.nil)) (.nil)) (.cons (.ret (.var 1)) (.nil)))))
def f_read_notice : FD := ⟨"read_notice", ["value", "signs", "at", "word", "sign"], 1, b_read_notice, false⟩
def b__law_word_of : Ss := .cons (.ife (.isi (.var 0) .str) (.cons (.ret (.var 0)) (.nil)) (.nil)) (.cons (.ret (.bin .Add (.bin .Add (.bin .Add (.bin .Add (.idx (.var 0) (.int 0)) (.str "-")) (.cb .str (.cons (.idx (.var 0) (.int 1)) (.nil)))) (.str "-")) (.idx (.var 0) (.int 2)))) (.nil))
def f__law_word_of : FD := ⟨"_law_word_of", ["_law_sign"], 1, b__law_word_of, false⟩
def b__law_words : Ss := .cons (.set 0 (.dnewS)) (.cons (.for_ (.name 1) (.e (.lst (.cons (.str "and") (.cons (.str "or") (.cons (.str "unless") (.cons (.str "onlyif") (.cons (.str "not") (.cons (.str "(") (.cons (.str ")") (.nil)))))))))) (.cons (.setI (.var 0) (.var 1) (.var 1)) (.nil))) (.cons (.for_ (.tup [3, 4]) (.e (.lst (.cons (.tup (.cons (.str "a") (.cons (.str "b") (.nil)))) (.cons (.tup (.cons (.str "b") (.cons (.str "a") (.nil)))) (.nil))))) (.cons (.for_ (.name 1) (.e (.lst (.cons (.str "all") (.cons (.str "some") (.cons (.str "no") (.cons (.str "allnot") (.nil))))))) (.cons (.setI (.var 0) (.bin .Add (.bin .Add (.bin .Add (.bin .Add (.var 1) (.str "-")) (.var 3)) (.str "-")) (.var 4)) (.tup (.cons (.var 1) (.cons (.var 3) (.cons (.var 4) (.nil)))))) (.nil))) (.nil))) (.cons (.for_ (.name 2) (.e (.tup (.cons (.int 1) (.cons (.int 2) (.cons (.int 3) (.nil)))))) (.cons (.for_ (.name 5) (.e (.lst (.cons (.str "a") (.cons (.str "b") (.cons (.str "both") (.nil)))))) (.cons (.setI (.var 0) (.bin .Add (.bin .Add (.bin .Add (.str "has-") (.cb .str (.cons (.var 2) (.nil)))) (.str "-")) (.var 5)) (.tup (.cons (.str "has") (.cons (.var 2) (.cons (.var 5) (.nil)))))) (.nil))) (.nil))) (.cons (.ret (.var 0)) (.nil)))))
def f__law_words : FD := ⟨"_law_words", ["_law_found", "_law_word", "_law_many", "_law_first", "_law_second", "_law_mark"], 0, b__law_words, false⟩
def b__law_due : Ss := .cons (.set 2 (.split (.var 0) (.str " "))) (.cons (.for_ (.tup [4, 5]) (.enum (.var 2)) (.cons (.ife (.cmp .NotIn (.var 5) (.var 1)) (.cons (.ret (.bin .Add (.var 4) (.int 1))) (.nil)) (.nil)) (.nil))) (.cons (.set 3 (.cb .tuple (.cons (.comp (.idx (.var 1) (.var 5)) [5] (.name 5) (.e (.var 2)) (.none)) (.nil)))) (.cons (.ret (.ite (.call 8 (.cons (.var 3) (.nil))) (.var 3) (.bin .Add (.cb .len (.cons (.var 2) (.nil))) (.int 1)))) (.nil))))
def f__law_due : FD := ⟨"_law_due", ["_law_text", "_law_known", "_law_words_here", "_law_signs", "_law_at", "_law_word"], 2, b__law_due, false⟩
def b__law_bent_k08 : Ss := .cons (.set 3 (.lst (.cons (.str " ") (.cons (.str "-") (.cons (.str "a") (.cons (.str "b") (.cons (.str "1") (.cons (.str "4") (.cons (.str "") (.cons (.str "not ") (.cons (.str " and") (.cons (.str "(") (.cons (.str ")") (.cons (.str "has-1-a") (.cons (.str " ( ") (.cons (.str "no-b-a") (.cons (.str "02") (.nil)))))))))))))))))) (.cons (.ife (.cmp .Eq (.call 14 (.cons (.var 0) (.cons (.int 2) (.nil)))) (.int 0)) (.cons (.set 5 (.split (.var 1) (.str " "))) (.cons (.set 4 (.call 14 (.cons (.var 0) (.cons (.cb .len (.cons (.var 5) (.nil))) (.nil))))) (.cons (.set 6 (.call 15 (.cons (.var 0) (.cons (.lst (.cons (.lst (.nil)) (.cons (.sl (.sl (.cb .sorted (.cons (.var 2) (.nil))) (.some (.call 14 (.cons (.var 0) (.cons (.cb .len (.cons (.var 2) (.nil))) (.nil))))) (.none)) (.none) (.some (.int 1))) (.cons (.lst (.cons (.str "and") (.cons (.str "all-a-b") (.nil)))) (.cons (.lst (.cons (.str "x") (.nil))) (.nil)))))) (.nil))))) (.cons (.ret (.join (.str " ") (.bin .Add (.bin .Add (.sl (.var 5) (.none) (.some (.var 4))) (.var 6)) (.sl (.var 5) (.some (.bin .Add (.var 4) (.call 14 (.cons (.var 0) (.cons (.int 2) (.nil)))))) (.none))))) (.nil))))) (.nil)) (.cons (.set 4 (.call 14 (.cons (.var 0) (.cons (.bin .Add (.cb .len (.cons (.var 1) (.nil))) (.int 1)) (.nil))))) (.cons (.ret (.bin .Add (.bin .Add (.sl (.var 1) (.none) (.some (.var 4))) (.call 15 (.cons (.var 0) (.cons (.var 3) (.nil))))) (.sl (.var 1) (.some (.bin .Add (.var 4) (.call 14 (.cons (.var 0) (.cons (.int 3) (.nil)))))) (.none)))) (.nil))))
def f__law_bent_k08 : FD := ⟨"_law_bent", ["_law_source_here", "_law_text", "_law_known", "_law_signs", "_law_at", "_law_words_here", "_law_more"], 3, b__law_bent_k08, false⟩
def b__law_tried : Ss := .cons (.set 1 (.non)) (.cons (.tryAs (.cons (.set 1 (.call 126 (.cons (.var 0) (.nil)))) (.nil)) 12 2 (.set 1 "word")) (.cons (.ret (.var 1)) (.nil)))
def f__law_tried : FD := ⟨"_law_tried", ["_law_value", "_law_found", "e"], 1, b__law_tried, false⟩
def b_law_k08 : Ss := .cons (.set 1 (.call 128 (.nil))) (.cons (.for_ (.name 2) (.rng (.bin .Add (.int 1) (.cb .min (.cons (.cb .len (.cons (.var 0) (.nil))) (.cons (.int 10) (.nil)))))) (.cons (.set 5 (.call 13 (.cons (.var 0) (.cons (.var 2) (.nil))))) (.cons (.set 6 (.call 18 (.cons (.var 5) (.cons (.int 4) (.nil))))) (.cons (.set 7 (.join (.str " ") (.comp (.call 127 (.cons (.var 11) (.nil))) [11] (.name 11) (.e (.var 6)) (.none)))) (.cons (.ife (.or (.cons (.cmp .NotEq (.call 124 (.cons (.var 6) (.nil))) (.var 7)) (.cons (.cmp .NotEq (.call 126 (.cons (.var 7) (.nil))) (.var 6)) (.nil)))) (.cons (.ret (.bl false)) (.nil)) (.nil)) (.cons (.set 8 (.var 7)) (.cons (.for_ (.name 9) (.rng (.int 20)) (.cons (.set 8 (.sl (.call 130 (.cons (.var 5) (.cons (.ite (.cmp .Eq (.bin .Mod (.var 9) (.int 3)) (.int 0)) (.var 7) (.var 8)) (.cons (.var 1) (.nil))))) (.none) (.some (.int 400)))) (.cons (.ife (.cmp .NotEq (.call 131 (.cons (.var 8) (.nil))) (.call 129 (.cons (.var 8) (.cons (.var 1) (.nil))))) (.cons (.ret (.bl false)) (.nil)) (.nil)) (.nil)))) (.cons (.for_ (.name 10) (.e (.lst (.cons (.non) (.cons (.int 5) (.cons (.tup (.cons (.var 7) (.nil))) (.cons (.lst (.cons (.var 7) (.nil))) (.cons (.bl true) (.cons (.var 6) (.nil))))))))) (.cons (.ife (.cmp .NotEq (.call 131 (.cons (.var 10) (.nil))) (.int 0)) (.cons (.ret (.bl false)) (.nil)) (.nil)) (.nil))) (.nil))))))))) (.cons (.forK (.name 3) 1 (.cons (.set 11 (.idx (.var 1) (.var 3))) (.cons (.ife (.and (.cons (.isi (.var 11) .tuple) (.cons (.cmp .NotEq (.tup (.cons (.call 126 (.cons (.var 3) (.nil))) (.cons (.call 124 (.cons (.tup (.cons (.var 11) (.nil))) (.nil))) (.nil)))) (.tup (.cons (.tup (.cons (.var 11) (.nil))) (.cons (.var 3) (.nil))))) (.nil)))) (.cons (.ret (.bl false)) (.nil)) (.nil)) (.nil)))) (.cons (.set 4 (.lst (.cons (.str "") (.cons (.str "and") (.cons (.str "all-a-b and") (.cons (.str "all-a-a") (.cons (.str "has-4-a") (.cons (.str "has-01-a") (.cons (.str "all-a-b  and all-b-a") (.nil)))))))))) (.cons (.set 4 (.bin .Add (.var 4) (.lst (.cons (.str "all-a-b all-b-a") (.cons (.str "All-a-b") (.nil)))))) (.cons (.set 4 (.bin .Add (.var 4) (.lst (.cons (.str "( all-a-b") (.cons (.str "not") (.cons (.str " all-a-b") (.cons (.str "all-a-b ") (.cons (.str "some-b-a or not-") (.cons (.str "least-1-a") (.cons (.str "1-has-a") (.nil))))))))))) (.cons (.ret (.cmp .Eq (.comp (.call 131 (.cons (.var 8) (.nil))) [8] (.name 8) (.e (.var 4)) (.none)) (.lst (.cons (.int 1) (.cons (.int 2) (.cons (.int 3) (.cons (.int 1) (.cons (.int 1) (.cons (.int 1) (.cons (.int 2) (.cons (.int 3) (.cons (.int 1) (.cons (.int 3) (.cons (.int 2) (.cons (.int 1) (.cons (.int 2) (.cons (.int 3) (.cons (.int 1) (.cons (.int 1) (.nil)))))))))))))))))))) (.nil)))))))
def f_law_k08 : FD := ⟨"law", ["_law_script", "_law_known", "_law_k", "_law_word", "_law_rows", "_law_source_here", "_law_notice_here", "_law_first", "_law_text", "_law_turn", "_law_odd", "_law_sign"], 1, b_law_k08, false⟩
end NW
end
section
namespace K08
open PySem NW

def pg : Pg := ⟨[(0, f_is_from), (1, f_is_pair_word), (2, f_is_many_word), (3, f_is_clause), (4, f_is_sign), (5, f_row_end), (6, f_part_end), (7, f_has_notice), (8, f_is_notice), (60, f_need_notice), (122, f_sign_word), (123, f_text_of), (124, f_notice_text), (125, f_read_sign), (126, f_read_notice), (13, f__law_source), (14, f__law_draw), (15, f__law_choice), (17, f__law_clause), (18, f__law_notice), (127, f__law_word_of), (128, f__law_words), (129, f__law_due), (130, f__law_bent_k08), (131, f__law_tried), (132, f_law_k08)], [10, 11, 12, 13, 14, 15, 16, 17, 18, 19, 22, 23, 24, 25, 26, 28, 29, 30, 31, 32, 33, 34, 35, 36, 37, 38], [("PAIRS", .tup [.tup [.str "a", .str "b"], .tup [.str "b", .str "a"]]), ("MARKS", .tup [.str "a", .str "b", .str "both"]), ("JOINTS", .tup [.str "and", .str "or", .str "unless", .str "onlyif"]), ("MOST_SIGNS", .int (16)), ("MOST_CLAUSES", .int (4)), ("FIGURES", .tup [.str "1", .str "2", .str "3"])], [(1, "InvalidNotice")], [(12, "InvalidText", "word", 3)]⟩
abbrev Pr : Program := PySem.Challenge.pw_noticeways_k08_texts_of_notices
theorem ok : okDefs pg.T pg.fds (pg.defs Pr) = true := by decide +kernel
theorem is_0 : Is pg.T.fn 0 f_is_from := ⟨_, rfl, rfl, rfl, rfl, rfl⟩
theorem is_1 : Is pg.T.fn 1 f_is_pair_word := ⟨_, rfl, rfl, rfl, rfl, rfl⟩
theorem is_2 : Is pg.T.fn 2 f_is_many_word := ⟨_, rfl, rfl, rfl, rfl, rfl⟩
theorem is_3 : Is pg.T.fn 3 f_is_clause := ⟨_, rfl, rfl, rfl, rfl, rfl⟩
theorem is_4 : Is pg.T.fn 4 f_is_sign := ⟨_, rfl, rfl, rfl, rfl, rfl⟩
theorem is_5 : Is pg.T.fn 5 f_row_end := ⟨_, rfl, rfl, rfl, rfl, rfl⟩
theorem is_6 : Is pg.T.fn 6 f_part_end := ⟨_, rfl, rfl, rfl, rfl, rfl⟩
theorem is_7 : Is pg.T.fn 7 f_has_notice := ⟨_, rfl, rfl, rfl, rfl, rfl⟩
theorem is_8 : Is pg.T.fn 8 f_is_notice := ⟨_, rfl, rfl, rfl, rfl, rfl⟩
theorem is_60 : Is pg.T.fn 60 f_need_notice := ⟨_, rfl, rfl, rfl, rfl, rfl⟩
theorem is_122 : Is pg.T.fn 122 f_sign_word := ⟨_, rfl, rfl, rfl, rfl, rfl⟩
theorem is_123 : Is pg.T.fn 123 f_text_of := ⟨_, rfl, rfl, rfl, rfl, rfl⟩
theorem is_124 : Is pg.T.fn 124 f_notice_text := ⟨_, rfl, rfl, rfl, rfl, rfl⟩
theorem is_125 : Is pg.T.fn 125 f_read_sign := ⟨_, rfl, rfl, rfl, rfl, rfl⟩
theorem is_126 : Is pg.T.fn 126 f_read_notice := ⟨_, rfl, rfl, rfl, rfl, rfl⟩
theorem is_13 : Is pg.T.fn 13 f__law_source := ⟨_, rfl, rfl, rfl, rfl, rfl⟩
theorem is_14 : Is pg.T.fn 14 f__law_draw := ⟨_, rfl, rfl, rfl, rfl, rfl⟩
theorem is_15 : Is pg.T.fn 15 f__law_choice := ⟨_, rfl, rfl, rfl, rfl, rfl⟩
theorem is_17 : Is pg.T.fn 17 f__law_clause := ⟨_, rfl, rfl, rfl, rfl, rfl⟩
theorem is_18 : Is pg.T.fn 18 f__law_notice := ⟨_, rfl, rfl, rfl, rfl, rfl⟩
theorem is_127 : Is pg.T.fn 127 f__law_word_of := ⟨_, rfl, rfl, rfl, rfl, rfl⟩
theorem is_128 : Is pg.T.fn 128 f__law_words := ⟨_, rfl, rfl, rfl, rfl, rfl⟩
theorem is_129 : Is pg.T.fn 129 f__law_due := ⟨_, rfl, rfl, rfl, rfl, rfl⟩
theorem is_130 : Is pg.T.fn 130 f__law_bent_k08 := ⟨_, rfl, rfl, rfl, rfl, rfl⟩
theorem is_131 : Is pg.T.fn 131 f__law_tried := ⟨_, rfl, rfl, rfl, rfl, rfl⟩
theorem is_132 : Is pg.T.fn 132 f_law_k08 := ⟨_, rfl, rfl, rfl, rfl, rfl⟩
end K08
end
section
set_option maxHeartbeats 0
namespace K08
open PySem PySem.W PySem.Calls PyProof.Rows NW
abbrev Rw : OpenRow := OpenLaw.row PySem.Challenge.rw_noticeways_k08_texts_of_notices
abbrev qv : Program := view Rw.prog [38]
abbrev hk : PySem.W.Hook := hookN 5 pg Pr
def ob (s : PySem.W.SharedT) : He.AlD := obsNG 5 pg Pr (HandSHeadRun.getT s)
theorem ob_eq (s : PySem.W.SharedT) : ob s = hk.obs s.abs := obsNG_eq (HandSHeadRun.getT_eq s)
def loose : List PySem.Str := (["NoticeError", "InvalidNotice", "InvalidText", "PAIRS", "MARKS", "JOINTS", "MOST_SIGNS", "MOST_CLAUSES", "FIGURES", "is_from", "is_pair_word", "is_many_word", "is_clause", "is_sign", "row_end", "part_end", "has_notice", "is_notice", "need_notice", "sign_word"] : List PySem.Str) ++ (["text_of", "notice_text", "read_sign", "read_notice", "_law_source", "_law_draw", "_law_choice", "_law_clause", "_law_notice", "_law_word_of", "_law_words", "_law_due", "_law_bent", "_law_tried"] : List PySem.Str)
theorem run (w : World) : HandSHeadRun.RunEq Rw qv hk ob 2000 loose w := by
  intro os
  kernel_rfl
end K08
open PySem PySem.W PySem.Calls PyProof.Rows
theorem K08.head (hrun : ∀ ns : List Int, ns.length ≤ 63 → (∀ z ∈ ns, Builtin.Int.intBits z ≤ 1048576) → ∃ S, NW.callN K08.pg.T.fn 64 132 [.scr ns] [] = .ok (.bl true) S) : PySem.Challenge.rw_noticeways_k08_texts_of_notices.Holds := by
  w_on; o_law
  refine HandSHeadRun.head_any (r := OpenLaw.row PySem.Challenge.rw_noticeways_k08_texts_of_notices) (q := K08.qv) (H := K08.hk) (ob := K08.ob) (M := 2000) (loose := K08.loose) (d := HandSHeadRun.topDef (OpenLaw.row PySem.Challenge.rw_noticeways_k08_texts_of_notices).prog 38) (kwd := []) K08.ob_eq
    (by kernel_rfl) (fun s => by kernel_rfl) K08.run (by kernel_rfl) (by kernel_rfl) (by kernel_rfl) (by rfl) (by first | assumption | decide +kernel) (by decide +kernel) ⟨rfl, rfl, rfl, rfl, rfl, by decide +kernel⟩ ?hw ?hc
  case hw => w_witness2
  case hc =>
    exact NW.law_end (l := PySem.Challenge.rw_noticeways_k08_texts_of_notices) (n := 63) (k := 63) (m := 5) (lf := 132) (p := K08.pg) (fdl := NW.f_law_k08) (x := "_law_script") rfl (by decide) (by kernel_rfl) ⟨rfl, by decide, by decide⟩ K08.ok rfl (by kernel_rfl) rfl hrun
end
section
/- What the program's recognisers of single values answer. -/
namespace NW
open PySem
structure HAt (T : Nat → Option FD) : Prop where
  h0 : Is T 0 f_is_from
  h1 : Is T 1 f_is_pair_word
  h2 : Is T 2 f_is_many_word
structure HSgn (T : Nat → Option FD) : Prop extends HAt T where
  h3 : Is T 3 f_is_clause
  h4 : Is T 4 f_is_sign
structure HFrm (T : Nat → Option FD) : Prop extends HAt T where
  h10 : Is T 10 f_is_atom
  h11 : Is T 11 f_has_formula
structure HVal (T : Nat → Option FD) : Prop extends HFrm T where
  h3 : Is T 3 f_is_clause
  h4 : Is T 4 f_is_sign
  h9 : Is T 9 f_is_house
  h12 : Is T 12 f_is_formula
theorem HVal.sgn {T : Nat → Option FD} (h : HVal T) : HSgn T := ⟨h.toHAt, h.h3, h.h4⟩
instance {T : Nat → Option FD} : Coe (HFrm T) (HAt T) := ⟨fun h => h.toHAt⟩
instance {T : Nat → Option FD} : Coe (HVal T) (HAt T) := ⟨fun h => h.toHAt⟩
instance {T : Nat → Option FD} : Coe (HVal T) (HSgn T) := ⟨fun h => h.sgn⟩
instance {T : Nat → Option FD} : Coe (HSgn T) (HAt T) := ⟨fun h => h.toHAt⟩
def mFrom (v : D) (lo hi : Int) : Bool := match v with
  | .int i => decide (lo ≤ i) && decide (i ≤ hi)
  | _ => false
theorem from_eq {T : Nat → Option FD} (h : HAt T) {k : Nat} {v : D} {lo hi : Int} {S : Store} (hv : v.ok = true) : callN T (k + 1) 0 [v, .int lo, .int hi] S = .ok (.bl (mFrom v lo hi)) S := by
  refine EP_pure (EP_call h.h0 rfl rfl ?_)
  cases v with
  | int i =>
    by_cases h1 : lo ≤ i
    · by_cases h2 : i ≤ hi <;> simp [-Bool.exists_bool, f_is_from, b_is_from, mFrom, h1, h2, evE]
    · simp [-Bool.exists_bool, f_is_from, b_is_from, mFrom, h1]
  | bl b => simp [-Bool.exists_bool, f_is_from, b_is_from, mFrom]
  | non => simp [-Bool.exists_bool, f_is_from, b_is_from, mFrom]
  | str x => simp [-Bool.exists_bool, f_is_from, b_is_from, mFrom]
  | tup x => simp [-Bool.exists_bool, f_is_from, b_is_from, mFrom]
  | lst x => simp [-Bool.exists_bool, f_is_from, b_is_from, mFrom]
  | loc _ => simp only [D.ok] at hv; cases hv
  | fn _ => simp only [D.ok] at hv; cases hv
  | scr _ => simp only [D.ok] at hv; cases hv
def sOk (x : Str) : Bool := PyData.strOk x
theorem okL_strs {ws : List Str} (h : ws.all PyData.strOk = true) : D.okL (ws.map D.str) = true := by
  rw [okL_all, List.all_map]
  exact h
theorem in_strs {S : Store} {ws : List Str} {x : Str} (h : ws.all PyData.strOk = true) (hx : PyData.strOk x = true) : cmpOp .In S (.str x) (.tup (ws.map D.str)) = some (ws.any fun w => w == x) := by
  have ho : inOk (.str x) (ws.map D.str) = true := by
    unfold inOk
    rw [okL_strs h]
    simp only [D.ok, hx, D.depth, Nat.min_zero, Nat.zero_le, decide_true, Bool.and_self]
  simp only [cmp_in dct_tup dks_tup, seq_tup, Option.bind_some, flat_str, ho, if_true, List.any_map]
  exact congrArg some (congrArg (fun f => ws.any f) (funext fun w => eqv_str_str))
def PAIR (y z : Str) : Bool := (("a" : Str) == y && ("b" : Str) == z) || (("b" : Str) == y && ("a" : Str) == z)
theorem in_pairs {S : Store} {y z : Str} (hy : PyData.strOk y = true) (hz : PyData.strOk z = true) : cmpOp .In S (.tup [.str y, .str z]) (.tup [.tup [.str "a", .str "b"], .tup [.str "b", .str "a"]]) = some (PAIR y z) := by
  have ha : PyData.strOk ("a" : Str) = true := by decide +kernel
  have hb : PyData.strOk ("b" : Str) = true := by decide +kernel
  have hin : inOk (.tup [.str y, .str z]) [.tup [.str "a", .str "b"], .tup [.str "b", .str "a"]] = true := by
    simp only [inOk, D.ok, D.okL, hy, hz, D.depth, D.depthL, Bool.and_true, Bool.true_and, ha, hb]
    rfl
  simp only [cmp_in dct_tup dks_tup, seq_tup, Option.bind_some, flat_tup, hin, if_true]
  simp [PAIR]
def isStr : D → Bool
  | .str _ => true
  | _ => false
theorem isi_str' {S : Store} {v : D} (hv : v.ok = true) : isi S v .str = some (isStr v) := by
  rw [isi_ok hv]
  cases v <;> rfl
def mPair (ws : List Str) : D → Bool
  | .tup [.str x, .str y, .str z] => (ws.any fun w => w == x) && PAIR y z
  | _ => false
def mMany (ws : List Str) : D → Bool
  | .tup [.str x, b, .str z] => (ws.any fun w => w == x) && (mFrom b 1 3 && ([("a" : Str), "b", "both"].any fun w => w == z))
  | _ => false
theorem all_strs {C : Calls} {G : Env} {S : Store} {ds : List D} {j : Nat} (hd : D.okL ds = true) (hl : ds.length ≤ lineN) (hj : j < G.length) :
    compGo (.name j) none (evE C (.isi (.var j) .str)) ⟨ds, none⟩ G ds [] S = .ok (.lst (ds.map fun d => .bl (isStr d))) S := by
  refine compGo_map (fun d => .bl (isStr d)) hl fun x hx => ⟨_, rfl, ?_⟩
  rw [okL_all, List.all_eq_true] at hd
  refine EP_pure ?_
  simp [setV, hj, isi_str' (hd x hx)]
theorem pair_eq {T : Nat → Option FD} (h : HAt T) {k : Nat} {v : D} {ws : List Str} {S : Store} (hv : v.ok = true) (hw : ws.all PyData.strOk = true) (hl : ∀ ds, v = .tup ds → ds.length ≤ lineN) : callN T (k + 1) 1 [.tup (ws.map D.str), v] S = .ok (.bl (mPair ws v)) S := by
  refine EP_pure (EP_call h.h1 rfl rfl ?_)
  cases v with
  | tup ds =>
    have hl' := hl ds rfl
    rw [ok_tup] at hv
    by_cases h3 : ds.length = 3
    · obtain ⟨a, b, c, rfl⟩ := len3 h3
      simp only [D.okL, Bool.and_eq_true] at hv
      obtain ⟨ha, hb, hc, _⟩ := hv
      have hall : ∀ G : Env, 2 < G.length → compGo (.name 2) none (evE (callN T k) (.isi (.var 2) .str)) ⟨[a, b, c], none⟩ G [a, b, c] [] S = .ok (.lst ([a, b, c].map fun d => .bl (isStr d))) S := fun G hG => all_strs (by simp only [D.okL, ha, hb, hc, Bool.and_self]) (by simpa using hl') hG
      have hal : allBl [D.bl (isStr a), D.bl (isStr b), D.bl (isStr c)] = some [isStr a, isStr b, isStr c] := rfl
      by_cases hs : isStr a = true ∧ isStr b = true ∧ isStr c = true
      · obtain ⟨s1, s2, s3⟩ := hs
        match a, b, c, s1, s2, s3 with
        | .str x, .str y, .str z, _, _, _ =>
          have hx : PyData.strOk x = true := by simpa only [D.ok] using ha
          have hy : PyData.strOk y = true := by simpa only [D.ok] using hb
          have hz : PyData.strOk z = true := by simpa only [D.ok] using hc
          by_cases hm : (ws.any fun w => w == x) = true
          · simp [-Bool.exists_bool, f_is_pair_word, b_is_pair_word, wipeE, setV, hall, hal, isStr, in_strs hw hx, hm, mPair, cutD, slIx, in_pairs hy hz, and_assoc]
          · simp [-Bool.exists_bool, f_is_pair_word, b_is_pair_word, wipeE, setV, hall, hal, isStr, in_strs hw hx, hm, mPair]
      · have e : mPair ws (.tup [a, b, c]) = false := by
          cases a <;> cases b <;> cases c <;> first | rfl | exact absurd ⟨rfl, rfl, rfl⟩ hs
        have e2 : ([isStr a, isStr b, isStr c].all id) = false := by
          rw [Bool.eq_false_iff]
          intro q
          simp only [List.all_cons, List.all_nil, id, Bool.and_true, Bool.and_eq_true] at q
          exact hs q
        simp only [List.map_cons, List.map_nil] at hall
        simp [-Bool.exists_bool, -List.all_cons, f_is_pair_word, b_is_pair_word, wipeE, setV, hall, hal, e, e2]
    · have e : mPair ws (.tup ds) = false := by
        unfold mPair
        split
        · rename_i heq; cases heq; exact absurd rfl h3
        · rfl
      have hne : ((ds.length : Int) == 3) = false := by rw [beq_eq_false_iff_ne]; omega
      simp [-Bool.exists_bool, f_is_pair_word, b_is_pair_word, eqOk, D.ok, D.depth, hne, e]
  | int i => simp [-Bool.exists_bool, f_is_pair_word, b_is_pair_word, mPair]
  | bl b => simp [-Bool.exists_bool, f_is_pair_word, b_is_pair_word, mPair]
  | non => simp [-Bool.exists_bool, f_is_pair_word, b_is_pair_word, mPair]
  | str x => simp [-Bool.exists_bool, f_is_pair_word, b_is_pair_word, mPair]
  | lst x => simp [-Bool.exists_bool, f_is_pair_word, b_is_pair_word, mPair]
  | loc _ => simp only [D.ok] at hv; cases hv
  | fn _ => simp only [D.ok] at hv; cases hv
  | scr _ => simp only [D.ok] at hv; cases hv

theorem many_eq {T : Nat → Option FD} (h : HAt T) {k : Nat} {v : D} {ws : List Str} {S : Store} (hv : v.ok = true) (hw : ws.all PyData.strOk = true) : callN T (k + 2) 2 [.tup (ws.map D.str), v] S = .ok (.bl (mMany ws v)) S := by
  refine EP_pure (EP_call h.h2 rfl rfl ?_)
  cases v with
  | tup ds =>
    rw [ok_tup] at hv
    by_cases h3 : ds.length = 3
    · obtain ⟨a, b, c, rfl⟩ := len3 h3
      simp only [D.okL, Bool.and_eq_true] at hv
      obtain ⟨ha, hb, hc, _⟩ := hv
      have i1 : NW.isi S a .str = some (isStr a) := isi_str' ha
      have i2 : NW.isi S c .str = some (isStr c) := isi_str' hc
      by_cases hs : isStr a = true
      · match a, hs with
        | .str x, _ =>
          have hx : PyData.strOk x = true := by simpa only [D.ok] using ha
          by_cases hm : (ws.any fun w => w == x) = true
          · by_cases hf : mFrom b 1 3 = true
            · by_cases hs2 : isStr c = true
              · match c, hs2 with
                | .str z, _ =>
                  have hz : PyData.strOk z = true := by simpa only [D.ok] using hc
                  have hin := in_strs (S := S) (ws := ["a", "b", "both"]) (x := z) (by decide +kernel) hz
                  simp only [List.map_cons, List.map_nil] at hin
                  simp [-Bool.exists_bool, f_is_many_word, b_is_many_word, setV, in_strs hw hx, hm, mMany, from_eq h hb, hf, hin]
              · have e : mMany ws (.tup [.str x, b, c]) = false := by cases c <;> first | rfl | exact absurd rfl hs2
                simp [-Bool.exists_bool, f_is_many_word, b_is_many_word, setV, in_strs hw hx, hm, from_eq h hb, hf, i2, hs2, e]
            · have e : mMany ws (.tup [.str x, b, c]) = false := by cases c <;> first | rfl | simp [mMany, hf]
              simp [-Bool.exists_bool, f_is_many_word, b_is_many_word, setV, in_strs hw hx, hm, from_eq h hb, hf, e]
          · have e : mMany ws (.tup [.str x, b, c]) = false := by cases c <;> first | rfl | simp [mMany, hm]
            simp [-Bool.exists_bool, f_is_many_word, b_is_many_word, setV, in_strs hw hx, hm, e]
      · have e : mMany ws (.tup [a, b, c]) = false := by cases a <;> first | rfl | exact absurd rfl hs
        simp [-Bool.exists_bool, f_is_many_word, b_is_many_word, setV, i1, hs, e]
    · have e : mMany ws (.tup ds) = false := by
        unfold mMany
        split
        · rename_i heq; cases heq; exact absurd rfl h3
        · rfl
      have hne : ((ds.length : Int) == 3) = false := by rw [beq_eq_false_iff_ne]; omega
      simp [-Bool.exists_bool, f_is_many_word, b_is_many_word, hne, e]
  | int i => simp [-Bool.exists_bool, f_is_many_word, b_is_many_word, mMany]
  | bl b => simp [-Bool.exists_bool, f_is_many_word, b_is_many_word, mMany]
  | non => simp [-Bool.exists_bool, f_is_many_word, b_is_many_word, mMany]
  | str x => simp [-Bool.exists_bool, f_is_many_word, b_is_many_word, mMany]
  | lst x => simp [-Bool.exists_bool, f_is_many_word, b_is_many_word, mMany]
  | loc _ => simp only [D.ok] at hv; cases hv
  | fn _ => simp only [D.ok] at hv; cases hv
  | scr _ => simp only [D.ok] at hv; cases hv
def mClause (v : D) : Bool := mPair ["all", "some", "no", "allnot"] v || mMany ["has"] v
def mAtom (v : D) : Bool := mPair ["all", "some", "no"] v || mMany ["least", "just"] v
theorem clause_eq {T : Nat → Option FD} (h : HSgn T) {k : Nat} {v : D} {S : Store} (hv : v.ok = true) (hl : ∀ ds, v = .tup ds → ds.length ≤ lineN) : callN T (k + 3) 3 [v] S = .ok (.bl (mClause v)) S := by
  refine EP_pure (EP_call h.h3 rfl rfl ?_)
  have e1 := pair_eq (k := k + 1) (ws := ["all", "some", "no", "allnot"]) (S := S) h.toHAt hv (by decide +kernel) hl
  have e2 := many_eq (k := k) (ws := ["has"]) (S := S) h.toHAt hv (by decide +kernel)
  simp only [List.map_cons, List.map_nil] at e1 e2
  by_cases hp : mPair ["all", "some", "no", "allnot"] v = true
  · simp [-Bool.exists_bool, f_is_clause, b_is_clause, e1, lineN, hp, mClause]
  · simp [-Bool.exists_bool, f_is_clause, b_is_clause, e1, e2, lineN, hp, mClause]
theorem atom_eq {T : Nat → Option FD} (h : HFrm T) {k : Nat} {v : D} {S : Store} (hv : v.ok = true) (hl : ∀ ds, v = .tup ds → ds.length ≤ lineN) : callN T (k + 3) 10 [v] S = .ok (.bl (mAtom v)) S := by
  refine EP_pure (EP_call h.h10 rfl rfl ?_)
  have e1 := pair_eq (k := k + 1) (ws := ["all", "some", "no"]) (S := S) h.toHAt hv (by decide +kernel) hl
  have e2 := many_eq (k := k) (ws := ["least", "just"]) (S := S) h.toHAt hv (by decide +kernel)
  simp only [List.map_cons, List.map_nil] at e1 e2
  by_cases hp : mPair ["all", "some", "no"] v = true
  · simp [-Bool.exists_bool, f_is_atom, b_is_atom, e1, lineN, hp, mAtom]
  · simp [-Bool.exists_bool, f_is_atom, b_is_atom, e1, e2, lineN, hp, mAtom]
def mSign (v : D) : Bool := match v with
  | .str x => (([("and" : Str), "or", "unless", "onlyif"].any fun w => w == x) || ([("not" : Str), "(", ")"].any fun w => w == x))
  | v => mClause v
theorem sign_eq {T : Nat → Option FD} (h : HSgn T) {k : Nat} {v : D} {S : Store} (hv : v.ok = true) (hl : ∀ ds, v = .tup ds → ds.length ≤ lineN) : callN T (k + 4) 4 [v] S = .ok (.bl (mSign v)) S := by
  refine EP_pure (EP_call h.h4 rfl rfl ?_)
  by_cases hs : isStr v = true
  · match v, hs with
    | .str x, _ =>
      have hx : PyData.strOk x = true := by simpa only [D.ok] using hv
      have h1 := in_strs (S := S) (ws := ["and", "or", "unless", "onlyif"]) (x := x) (by decide +kernel) hx
      have h2 := in_strs (S := S) (ws := ["not", "(", ")"]) (x := x) (by decide +kernel) hx
      simp only [List.map_cons, List.map_nil] at h1 h2
      by_cases hp : ([("and" : Str), "or", "unless", "onlyif"].any fun w => w == x) = true
      · rw [hp] at h1
        simp [-Bool.exists_bool, -List.any_cons, f_is_sign, b_is_sign, h1, mSign, hp]
      · rw [Bool.eq_false_iff.mpr hp] at h1
        simp [-Bool.exists_bool, -List.any_cons, f_is_sign, b_is_sign, h1, h2, mSign, Bool.eq_false_iff.mpr hp, lineN]
  · have e : mSign v = mClause v := by cases v <;> first | rfl | exact absurd rfl hs
    have e2 := clause_eq (k := k) (S := S) h hv hl
    simp [-Bool.exists_bool, f_is_sign, b_is_sign, isi_str' hv, hs, e, e2]
end NW
end
section
/- What the program's recognisers of houses and formulas answer. -/
namespace NW
open PySem
mutual
/-- no tuple, no list in it is longer than n -/
def D.fit (n : Nat) : D → Bool
  | .tup ds => decide (ds.length ≤ n) && D.fitL n ds
  | .lst ds => decide (ds.length ≤ n) && D.fitL n ds
  | .non => true
  | .bl _ => true
  | .int _ => true
  | .str _ => true
  | .loc _ => true
  | .fn _ => true
  | .scr _ => true
def D.fitL (n : Nat) : List D → Bool
  | [] => true
  | d :: ds => D.fit n d && D.fitL n ds
end
theorem fitL_all {n : Nat} : ∀ {ds : List D}, D.fitL n ds = ds.all (D.fit n)
  | [] => by simp only [D.fitL, List.all_nil]
  | d :: ds => by simp only [D.fitL, List.all_cons, fitL_all (ds := ds)]
theorem fit_tup {n : Nat} {ds : List D} (h : (D.tup ds).fit n = true) : ds.length ≤ n ∧ ∀ d ∈ ds, d.fit n = true := by
  simp only [D.fit, Bool.and_eq_true, decide_eq_true_eq, fitL_all, List.all_eq_true] at h
  exact h
theorem ok_tups {ds : List D} (h : (D.tup ds).ok = true) : ∀ d ∈ ds, d.ok = true := by
  rw [ok_tup, okL_all, List.all_eq_true] at h
  exact h
def mHouse : D → Bool
  | .tup ds => decide (ds.length = 4) && ds.all fun d => mFrom d 0 1000000000000000000000000000000
  | _ => false
theorem house_eq {T : Nat → Option FD} (h : HVal T) {k : Nat} {v : D} {S : Store} (hv : v.ok = true) (hf : v.fit lineN = true) : callN T (k + 2) 9 [v] S = .ok (.bl (mHouse v)) S := by
  refine EP_pure (EP_call h.h9 rfl rfl ?_)
  cases v with
  | tup ds =>
    obtain ⟨hl, _⟩ := fit_tup hf
    by_cases h4 : ds.length = 4
    · have hc : ∀ G : Env, 1 < G.length → compGo (.name 1) none (evE (callN T (k + 1)) (.call 0 (.cons (.var 1) (.cons (.int 0) (.cons (.cst "GREAT" (.int (1000000000000000000000000000000))) (.nil)))))) ⟨ds, none⟩ G ds [] S = .ok (.lst (ds.map fun d => .bl (mFrom d 0 1000000000000000000000000000000))) S := fun G hG =>
        compGo_map (fun d => .bl (mFrom d 0 1000000000000000000000000000000)) hl fun x hx => ⟨_, rfl, EP_pure (by simp [setV, hG, from_eq h.toHAt (ok_tups hv x hx)])⟩
      have he : ((ds.length : Int) == 4) = true := by rw [beq_iff_eq]; omega
      simp [-Bool.exists_bool, f_is_house, b_is_house, he, wipeE, hc, allBl_map, mHouse, h4, List.all_map]
    · have he : ((ds.length : Int) == 4) = false := by rw [beq_eq_false_iff_ne]; omega
      simp [-Bool.exists_bool, f_is_house, b_is_house, he, mHouse, h4]
  | int i => simp [-Bool.exists_bool, f_is_house, b_is_house, mHouse]
  | bl b => simp [-Bool.exists_bool, f_is_house, b_is_house, mHouse]
  | non => simp [-Bool.exists_bool, f_is_house, b_is_house, mHouse]
  | str x => simp [-Bool.exists_bool, f_is_house, b_is_house, mHouse]
  | lst x => simp [-Bool.exists_bool, f_is_house, b_is_house, mHouse]
  | loc _ => simp only [D.ok] at hv; cases hv
  | fn _ => simp only [D.ok] at hv; cases hv
  | scr _ => simp only [D.ok] at hv; cases hv
def mForm : Nat → D → Bool
  | 0, _ => false
  | n + 1, .tup (.str x :: d :: r) => if x = "not" then (match r with
      | [] => mForm n d
      | _ => false)
    else if ([("and" : Str), "or", "if", "other"].any fun w => w == x) = true then (match r with
      | [e] => mForm n d && mForm n e
      | _ => false)
    else mAtom (.tup (.str x :: d :: r))
  | _, _ => false
theorem form_eq {T : Nat → Option FD} (h : HFrm T) {S : Store} : ∀ (n k : Nat) (v : D), v.ok = true → v.fit lineN = true → callN T (k + 4 + n) 11 [v, .int n] S = .ok (.bl (mForm n v)) S := by
  intro n
  induction n with
  | zero =>
    intro k v hv hf
    refine EP_pure (EP_call h.h11 rfl rfl ?_)
    cases v with
    | tup ds =>
      match ds with
      | [] => simp [-Bool.exists_bool, f_has_formula, b_has_formula, mForm]
      | [a] => simp [-Bool.exists_bool, f_has_formula, b_has_formula, mForm]
      | a :: b :: r =>
        have ha := isi_str' (S := S) (ok_tups hv a (by simp))
        have hl : ¬ ((r.length : Int) + 1 + 1 < 2) := by omega
        by_cases hs : isStr a = true
        · simp [-Bool.exists_bool, f_has_formula, b_has_formula, mForm, ha, hs, hl]
        · simp [-Bool.exists_bool, f_has_formula, b_has_formula, mForm, ha, hs, hl]
    | int i => simp [-Bool.exists_bool, f_has_formula, b_has_formula, mForm]
    | bl b => simp [-Bool.exists_bool, f_has_formula, b_has_formula, mForm]
    | non => simp [-Bool.exists_bool, f_has_formula, b_has_formula, mForm]
    | str x => simp [-Bool.exists_bool, f_has_formula, b_has_formula, mForm]
    | lst x => simp [-Bool.exists_bool, f_has_formula, b_has_formula, mForm]
    | loc _ => simp only [D.ok] at hv; cases hv
    | fn _ => simp only [D.ok] at hv; cases hv
    | scr _ => simp only [D.ok] at hv; cases hv
  | succ n ih =>
    intro k v hv hf
    have hk : k + 4 + (n + 1) = (k + 4 + n) + 1 := by omega
    rw [hk]
    refine EP_pure (EP_call h.h11 rfl rfl ?_)
    cases v with
    | tup ds =>
      have hkn : ((n : Int) + 1 == 0) = false := by rw [beq_eq_false_iff_ne]; omega
      have hsub : (n : Int) + 1 - 1 = n := by omega
      obtain ⟨hl, hfi⟩ := fit_tup hf
      match ds, hv, hf, hl, hfi with
      | [], _, _, _, _ => simp [-Bool.exists_bool, f_has_formula, b_has_formula, mForm]
      | [a], _, _, _, _ => simp [-Bool.exists_bool, f_has_formula, b_has_formula, mForm]
      | a :: b :: r, hv, hf, hl, hfi =>
        have ha := isi_str' (S := S) (ok_tups hv a (by simp))
        have hll : ¬ ((r.length : Int) + 1 + 1 < 2) := by omega
        by_cases hs : isStr a = true
        · match a, hs with
          | .str x, _ =>
            have hx : PyData.strOk x = true := by simpa only [D.ok] using ok_tups hv (.str x) (by simp)
            have hq := eqOk_str hx (show PyData.strOk ("not" : Str) = true by decide +kernel)
            have hin := in_strs (S := S) (ws := ["and", "or", "if", "other"]) (x := x) (by decide +kernel) hx
            simp only [List.map_cons, List.map_nil] at hin
            have hb1 := ih k b (ok_tups hv b (by simp)) (hfi b (by simp))
            by_cases hn : x = "not"
            · match r, hll with
              | [], hll =>
                subst hn
                simp [-Bool.exists_bool, -List.any_cons, f_has_formula, b_has_formula, mForm, ha, isStr, hkn, cmp_eq, hq, hsub, hb1, atD_1]
              | c :: r', hll =>
                have hne : ((r'.length : Int) + 1 + 1 + 1 == 2) = false := by rw [beq_eq_false_iff_ne]; omega
                subst hn
                have hll2 : ¬ ((r'.length : Int) + 1 + 1 + 1 < 2) := by omega
                simp [-Bool.exists_bool, -List.any_cons, f_has_formula, b_has_formula, mForm, ha, isStr, hkn, cmp_eq, hq, hsub, hne, hll2]
            · have hn' : (x == ("not" : Str)) = false := by rw [beq_eq_false_iff_ne]; exact hn
              by_cases hi : ([("and" : Str), "or", "if", "other"].any fun w => w == x) = true
              · have hi2 := hi
                rw [hi] at hin
                match r, hll with
                | [], hll =>
                  simp [-Bool.exists_bool, -List.any_cons, f_has_formula, b_has_formula, mForm, ha, isStr, hkn, cmp_eq, hq, hsub, hn, hn', hin, hi, lineN]
                | [c], hll =>
                  have hc1 := ih k c (ok_tups hv c (by simp)) (hfi c (by simp))
                  have hc : ∀ y : D, compGo (.name 2) none (evE (callN T (k + 4 + n)) (.call 11 (.cons (.var 2) (.cons (.bin .Sub (.var 1) (.int 1)) (.nil))))) ⟨[b, c], none⟩ [some (.tup [y, b, c]), some (.int ((n : Int) + 1)), none] [b, c] [] S = .ok (.lst ([b, c].map fun d => .bl (mForm n d))) S := fun y =>
                    compGo_map (fun d => .bl (mForm n d)) (by simp [lineN]) fun x hx => ⟨_, rfl, EP_pure (by
                      have hx' : callN T (k + 4 + n) 11 [x, .int n] S = .ok (.bl (mForm n x)) S := by
                        simp only [List.mem_cons, List.not_mem_nil, or_false] at hx
                        rcases hx with rfl | rfl
                        · exact hb1
                        · exact hc1
                      simp [setV, hsub, hx'])⟩
                  simp [-Bool.exists_bool, -List.any_cons, f_has_formula, b_has_formula, mForm, ha, isStr, hkn, cmp_eq, hq, hsub, hn, hn', hin, hi, lineN, cutD, slIx, wipeE, hc]
                | c :: d :: r', hll =>
                  have hne : ((r'.length : Int) + 1 + 1 + 1 + 1 == 3) = false := by rw [beq_eq_false_iff_ne]; omega
                  have hll2 : ¬ ((r'.length : Int) + 1 + 1 + 1 + 1 < 2) := by omega
                  simp [-Bool.exists_bool, -List.any_cons, f_has_formula, b_has_formula, mForm, ha, isStr, hkn, cmp_eq, hq, hsub, hn, hn', hin, hi, hne, hll2, lineN]
              · rw [Bool.eq_false_iff.mpr hi] at hin
                have hat := atom_eq (k := k + 1 + n) (S := S) h hv (fun ds e => by cases e; exact hl)
                rw [show k + 1 + n + 3 = k + 4 + n by omega] at hat
                simp [-Bool.exists_bool, -List.any_cons, f_has_formula, b_has_formula, mForm, ha, isStr, hkn, cmp_eq, hq, hsub, hn, hn', hin, hi, hat, hll, lineN]
        · have e : mForm (n + 1) (.tup (a :: b :: r)) = false := by cases a <;> first | rfl | exact absurd rfl hs
          simp [-Bool.exists_bool, f_has_formula, b_has_formula, ha, hs, e, hll]
    | int i => simp [-Bool.exists_bool, f_has_formula, b_has_formula, mForm]
    | bl b => simp [-Bool.exists_bool, f_has_formula, b_has_formula, mForm]
    | non => simp [-Bool.exists_bool, f_has_formula, b_has_formula, mForm]
    | str x => simp [-Bool.exists_bool, f_has_formula, b_has_formula, mForm]
    | lst x => simp [-Bool.exists_bool, f_has_formula, b_has_formula, mForm]
    | loc _ => simp only [D.ok] at hv; cases hv
    | fn _ => simp only [D.ok] at hv; cases hv
    | scr _ => simp only [D.ok] at hv; cases hv
end NW
end
section
/- Marks, clauses, formulas, signs, rows that a law draws: as data of Lean. -/
namespace NW
open PySem
inductive Mk where
  | a | b | both
  deriving DecidableEq
inductive Fw where
  | all | some | no
  deriving DecidableEq
inductive Bw where
  | and | or | iff | other
  deriving DecidableEq
inductive Jt where
  | and | or | unless | onlyif
  deriving DecidableEq
/-- n stands for the number n + 1; s: the marks are turned -/
inductive Cl where
  | pr (w : Fw) (s : Bool) | alln (s : Bool) | has (n : Fin 3) (m : Mk)
  deriving DecidableEq
/-- j: just -/
inductive Fm where
  | pr (w : Fw) (s : Bool) | num (j : Bool) (n : Fin 3) (m : Mk) | not (f : Fm) | bin (w : Bw) (f g : Fm)
  deriving DecidableEq
inductive Sg where
  | cl (c : Cl) | jt (j : Jt) | nt | lp | rp
  deriving DecidableEq
def Mk.s : Mk → Str
  | .a => "a" | .b => "b" | .both => "both"
def Fw.s : Fw → Str
  | .all => "all" | .some => "some" | .no => "no"
def Bw.s : Bw → Str
  | .and => "and" | .or => "or" | .iff => "if" | .other => "other"
def Jt.s : Jt → Str
  | .and => "and" | .or => "or" | .unless => "unless" | .onlyif => "onlyif"
def mk1 (s : Bool) : Str := if s then "b" else "a"
def mk2 (s : Bool) : Str := if s then "a" else "b"
def jw (j : Bool) : Str := if j then "just" else "least"
def n3 (n : Fin 3) : Int := (n.val : Int) + 1
def Cl.d : Cl → D
  | .pr w s => .tup [.str w.s, .str (mk1 s), .str (mk2 s)]
  | .alln s => .tup [.str "allnot", .str (mk1 s), .str (mk2 s)]
  | .has n m => .tup [.str "has", .int (n3 n), .str m.s]
def Fm.d : Fm → D
  | .pr w s => .tup [.str w.s, .str (mk1 s), .str (mk2 s)]
  | .num j n m => .tup [.str (jw j), .int (n3 n), .str m.s]
  | .not f => .tup [.str "not", f.d]
  | .bin w f g => .tup [.str w.s, f.d, g.d]
def Sg.d : Sg → D
  | .cl c => c.d
  | .jt j => .str j.s
  | .nt => .str "not"
  | .lp => .str "("
  | .rp => .str ")"
def Fm.dep : Fm → Nat
  | .pr _ _ => 1
  | .num _ _ _ => 1
  | .not f => f.dep + 1
  | .bin _ f g => max f.dep g.dep + 1
/-- a part that a law draws: a clause, or two of them in brackets; n: with not ahead -/
inductive Pt where
  | one (n : Bool) (c : Cl) | grp (n : Bool) (n1 : Bool) (c1 : Cl) (j : Jt) (n2 : Bool) (c2 : Cl)
  deriving DecidableEq
def ones (n : Bool) (c : Cl) : List Sg := if n then [.nt, .cl c] else [.cl c]
def Pt.row : Pt → List Sg
  | .one n c => ones n c
  | .grp n n1 c1 j n2 c2 => (if n then [.nt] else []) ++ ([.lp] ++ ones n1 c1 ++ [.jt j] ++ ones n2 c2 ++ [.rp])
def Pt.cls : Pt → Nat
  | .one _ _ => 1
  | .grp _ _ _ _ _ _ => 2
def Pt.grs : Pt → Nat
  | .one _ _ => 0
  | .grp _ _ _ _ _ _ => 1
/-- a drawn notice -/
structure Nt where
  hd : Pt
  tl : List (Jt × Pt)
def Nt.row (n : Nt) : List Sg := n.hd.row ++ n.tl.flatMap fun p => .jt p.1 :: p.2.row
def Nt.cls (n : Nt) : Nat := n.hd.cls + (n.tl.map fun p => p.2.cls).sum
def Nt.grs (n : Nt) : Nat := n.hd.grs + (n.tl.map fun p => p.2.grs).sum
def Nt.d (n : Nt) : D := .tup (n.row.map Sg.d)
end NW
end
section
/- Formulas are plain data; which are equal; which are keys. -/
namespace NW
open PySem
mutual
theorem fit_le {n m : Nat} (h : n ≤ m) : ∀ d : D, d.fit n = true → d.fit m = true
  | .non, _ => rfl
  | .bl _, _ => rfl
  | .int _, _ => rfl
  | .str _, _ => rfl
  | .tup ds, q => by
    simp only [D.fit, Bool.and_eq_true, decide_eq_true_eq] at q ⊢
    exact ⟨by omega, fitL_le h ds q.2⟩
  | .lst ds, q => by
    simp only [D.fit, Bool.and_eq_true, decide_eq_true_eq] at q ⊢
    exact ⟨by omega, fitL_le h ds q.2⟩
  | .loc _, _ => rfl
  | .fn _, _ => rfl
  | .scr _, _ => rfl
theorem fitL_le {n m : Nat} (h : n ≤ m) : ∀ ds : List D, D.fitL n ds = true → D.fitL m ds = true
  | [], _ => rfl
  | d :: ds, q => by
    simp only [D.fitL, Bool.and_eq_true] at q ⊢
    exact ⟨fit_le h d q.1, fitL_le h ds q.2⟩
end
theorem pr_ok (w : Fw) (s : Bool) : (Fm.pr w s).d.ok = true ∧ (Fm.pr w s).d.fit 3 = true ∧ (Fm.pr w s).d.depth = 1 ∧ ∀ n, mForm (n + 1) (Fm.pr w s).d = true := by
  cases w <;> cases s <;> refine ⟨by decide +kernel, by decide +kernel, by decide +kernel, fun n => ?_⟩ <;> rfl
theorem num_ok (j : Bool) (n : Fin 3) (m : Mk) : (Fm.num j n m).d.ok = true ∧ (Fm.num j n m).d.fit 3 = true ∧ (Fm.num j n m).d.depth = 1 ∧ mAtom (Fm.num j n m).d = true := by
  revert n
  cases j <;> cases m <;> decide +kernel
theorem num_form (j : Bool) (n : Fin 3) (m : Mk) (k : Nat) : mForm (k + 1) (Fm.num j n m).d = mAtom (Fm.num j n m).d := by cases j <;> rfl
theorem Fm.plain : ∀ f : Fm, f.d.ok = true ∧ f.d.fit 3 = true ∧ f.d.depth = f.dep ∧ ∀ n, f.dep ≤ n → mForm n f.d = true
  | .pr w s => by
    obtain ⟨h1, h2, h3, h4⟩ := pr_ok w s
    refine ⟨h1, h2, h3, fun n hn => ?_⟩
    match n, hn with
    | n + 1, _ => exact h4 n
  | .num j n m => by
    obtain ⟨h1, h2, h3, h4⟩ := num_ok j n m
    refine ⟨h1, h2, h3, fun n hn => ?_⟩
    match n, hn with
    | n + 1, _ => rw [num_form]; exact h4
  | .not f => by
    obtain ⟨h1, h2, h3, h4⟩ := f.plain
    have hs : PyData.strOk ("not" : Str) = true := by decide +kernel
    refine ⟨?_, ?_, ?_, fun n hn => ?_⟩
    · simp [Fm.d, D.ok, D.okL, h1, hs]
    · simp [Fm.d, D.fit, D.fitL, h2]
    · simp [Fm.d, D.depth, D.depthL, h3, Fm.dep]
    · match n, hn with
      | n + 1, hn =>
        show (if ("not" : Str) = "not" then mForm n f.d else _) = true
        rw [if_pos rfl]
        exact h4 n (by simp only [Fm.dep] at hn; omega)
  | .bin w f g => by
    obtain ⟨h1, h2, h3, h4⟩ := f.plain
    obtain ⟨g1, g2, g3, g4⟩ := g.plain
    have hs : PyData.strOk w.s = true := by cases w <;> decide +kernel
    refine ⟨?_, ?_, ?_, fun n hn => ?_⟩
    · simp [Fm.d, D.ok, D.okL, h1, g1, hs]
    · simp [Fm.d, D.fit, D.fitL, h2, g2]
    · simp [Fm.d, D.depth, D.depthL, h3, g3, Fm.dep]
    · match n, hn with
      | n + 1, hn =>
        have hw : w.s ≠ "not" := by cases w <;> decide +kernel
        have hw2 : ([("and" : Str), "or", "if", "other"].any fun x => x == w.s) = true := by cases w <;> decide +kernel
        show (if w.s = "not" then _ else if ([("and" : Str), "or", "if", "other"].any fun x => x == w.s) = true then (mForm n f.d && mForm n g.d) else _) = true
        rw [if_neg hw, if_pos hw2, h4 n (by simp only [Fm.dep] at hn; omega), g4 n (by simp only [Fm.dep] at hn; omega)]
        rfl
theorem eqv_si {x : Str} {i : Int} : D.eqv (.str x) (.int i) = false := by simp only [D.eqv]
theorem eqv_is {x : Str} {i : Int} : D.eqv (.int i) (.str x) = false := by simp only [D.eqv]
theorem Fm.eqv : ∀ f g : Fm, D.eqv f.d g.d = decide (f = g)
  | .pr w s, .pr w' s' => by cases w <;> cases w' <;> cases s <;> cases s' <;> decide +kernel
  | .num j n m, .num j' n' m' => by
    revert n n'
    cases j <;> cases j' <;> cases m <;> cases m' <;> decide +kernel
  | .pr w s, .num j n m => by
    have : (w.s == jw j) = false := by cases w <;> cases j <;> decide +kernel
    simp [Fm.d, this]
  | .num j n m, .pr w s => by
    have : (jw j == w.s) = false := by cases w <;> cases j <;> decide +kernel
    simp [Fm.d, this]
  | .pr w s, .not g => by
    have : (w.s == "not") = false := by cases w <;> decide +kernel
    simp [Fm.d, this]
  | .not g, .pr w s => by
    have : ("not" == w.s) = false := by cases w <;> decide +kernel
    simp [Fm.d, this]
  | .pr w s, .bin w' f g => by
    have : (w.s == w'.s) = false := by cases w <;> cases w' <;> decide +kernel
    simp [Fm.d, this]
  | .bin w' f g, .pr w s => by
    have : (w'.s == w.s) = false := by cases w <;> cases w' <;> decide +kernel
    simp [Fm.d, this]
  | .num j n m, .not g => by
    have : (jw j == "not") = false := by cases j <;> decide +kernel
    simp [Fm.d, this]
  | .not g, .num j n m => by
    have : ("not" == jw j) = false := by cases j <;> decide +kernel
    simp [Fm.d, this]
  | .num j n m, .bin w f g => by
    have : (jw j == w.s) = false := by cases j <;> cases w <;> decide +kernel
    simp [Fm.d, this]
  | .bin w f g, .num j n m => by
    have : (w.s == jw j) = false := by cases j <;> cases w <;> decide +kernel
    simp [Fm.d, this]
  | .not f, .not g => by simp [Fm.d, Fm.eqv f g]
  | .not f, .bin w g h => by
    have : ("not" == w.s) = false := by cases w <;> decide +kernel
    simp [Fm.d, this]
  | .bin w g h, .not f => by
    have : (w.s == "not") = false := by cases w <;> decide +kernel
    simp [Fm.d, this]
  | .bin w f g, .bin w' f' g' => by
    have : (w.s == w'.s) = decide (w = w') := by cases w <;> cases w' <;> decide +kernel
    simp [Fm.d, Fm.eqv f f', Fm.eqv g g', this, Bool.decide_and]
theorem Fm.nk : ∀ f : Fm, ∃ k, D.nk f.d = some k
  | .pr w s => by exact ⟨_, rfl⟩
  | .num j n m => by exact ⟨_, rfl⟩
  | .not f => by
    obtain ⟨k, h⟩ := f.nk
    exact ⟨_, by simp only [Fm.d, D.nk, D.nkL, h, Option.bind_some, Option.map_some]; rfl⟩
  | .bin w f g => by
    obtain ⟨k, h⟩ := f.nk
    obtain ⟨k2, h2⟩ := g.nk
    exact ⟨_, by simp only [Fm.d, D.nk, D.nkL, h, h2, Option.bind_some, Option.map_some]; rfl⟩
theorem Fm.key {f : Fm} (h : f.dep ≤ 8) : keyOk f.d = true := by
  obtain ⟨k, e⟩ := f.nk
  have hd : f.d.depth ≤ 8 := by rw [f.plain.2.2.1]; exact h
  cases f <;> (simp only [Fm.d] at e hd ⊢; simp only [keyOk, e, Option.isSome_some, Bool.true_and, decide_eq_true_eq]; exact hd)
theorem Fm.tup (f : Fm) : ∃ ds, f.d = .tup ds := by cases f <;> exact ⟨_, rfl⟩
end NW
end
section
/- What the program's reader of rows answers: a machine that counts brackets. -/
namespace NW
open PySem
inductive Tk where
  | nt | lp | rp | jt | x
  deriving DecidableEq
def tk : D → Tk
  | .str s => if s = "not" then .nt else if s = "(" then .lp else if s = ")" then .rp else .jt
  | _ => .x
/-- does the row end well from here: d brackets are open; true: a part is due, false: a part has ended -/
def acc : Nat → Bool → List Tk → Bool
  | d, true, .nt :: r => acc d true r
  | d, true, .lp :: r => acc (d + 1) true r
  | d, true, .x :: r => acc d false r
  | d, false, .jt :: r => acc d true r
  | d + 1, false, .rp :: r => acc d false r
  | 0, false, [] => true
  | _, _, _ => false
structure HRow (T : Nat → Option FD) : Prop where
  h5 : Is T 5 f_row_end
  h6 : Is T 6 f_part_end
/-- a sign of a row -/
def rowSign (v : D) : Bool := match v with
  | .str x => (([("and" : Str), "or", "unless", "onlyif"].any fun w => w == x) || ([("not" : Str), "(", ")"].any fun w => w == x))
  | .tup _ => true
  | _ => false
def accD (ds : List D) (a d : Nat) (q : Bool) : Bool := acc d q ((ds.drop a).map tk)
def PartS (ds : List D) (S : Store) (a : Nat) (d : D) (S' : Store) : Prop := S' = S ∧ ((∃ b : Nat, d = .int b ∧ a < b ∧ b ≤ ds.length ∧ ∀ n, accD ds a n true = accD ds b n false) ∨ (d = .non ∧ ∀ n, accD ds a n true = false))
def RowS (ds : List D) (S : Store) (a : Nat) (d : D) (S' : Store) : Prop := S' = S ∧ ((∃ b : Nat, d = .int b ∧ a < b ∧ b ≤ ds.length ∧ (∀ n, accD ds a n true = accD ds b n false) ∧ (∀ h : b < ds.length, tk ds[b] ≠ .jt)) ∨ (d = .non ∧ ∀ n, accD ds a n true = false))
section
variable {T : Nat → Option FD} {ds : List D} {S : Store}
theorem accD_cons {a n : Nat} {q : Bool} (h : a < ds.length) : accD ds a n q = acc n q (tk ds[a] :: (ds.drop (a + 1)).map tk) := by
  unfold accD
  rw [List.drop_eq_getElem_cons h, List.map_cons]
theorem accD_end {a n : Nat} (h : ds.length ≤ a) : accD ds a n true = false := by
  unfold accD
  rw [List.drop_eq_nil_of_le h]
  simp [acc]
theorem part_step (h : HRow T) (hv : ∀ d ∈ ds, d.ok = true) (hr : ∀ d ∈ ds, rowSign d = true) {K a : Nat} (ha : a ≤ ds.length) (hl : ds.length < 1000)
    (ih : ∀ b, a < b → b ≤ ds.length → EP (callN T K 5 [.tup ds, .int b] S) (RowS ds S b)) : EP (callN T (K + 1) 6 [.tup ds, .int a] S) (PartS ds S a) := by
  refine EP_call h.h6 rfl rfl ?_
  have hno : PyData.strOk ("not" : Str) = true := by decide +kernel
  have hlp : PyData.strOk ("(" : Str) = true := by decide +kernel
  have hrp : PyData.strOk (")" : Str) = true := by decide +kernel
  simp only [f_part_end, b_part_end, SP_cons (s := .whl _ _)]
  refine SP_whl (fun m G S1 => S1 = S ∧ ∃ b : Nat, G = [some (.tup ds), some (.int b)] ∧ a ≤ b ∧ b ≤ ds.length ∧ m = ds.length - b ∧ ∀ n, accD ds a n true = accD ds b n true) (n := ds.length - a)
    (by show _ < 1048576; omega) ⟨rfl, a, rfl, Nat.le_refl _, ha, rfl, fun _ => rfl⟩ ?_
  rintro m G S1 ⟨rfl, b, rfl, h1, h2, rfl, h3⟩
  by_cases hb : b < ds.length
  · have hb' : (b : Int) < (ds.length : Int) := by omega
    have hat := atD_nat hb
    have hvb := hv _ (List.getElem_mem hb)
    have hrb := hr _ (List.getElem_mem hb)
    have hacc := fun n q => accD_cons (n := n) (q := q) hb
    have hge : ¬ (ds.length : Int) ≤ (b : Int) := by omega
    generalize hd : ds[b] = v at *
    by_cases hs : isStr v = true
    · match v, hs with
      | .str x, _ =>
        by_cases hx : x = "not"
        · subst hx
          simp [-Bool.exists_bool, hb', hat, eq_sign hvb hno, setV]
          refine ⟨ds.length - (b + 1), by omega, b + 1, by omega, by omega, by omega, rfl, fun n => ?_⟩
          rw [h3 n, hacc n true]
          simp [tk, acc, accD]
        · have hx' : (x == ("not" : Str)) = false := by rw [beq_eq_false_iff_ne]; exact hx
          by_cases hx2 : x = "("
          · subst hx2
            have hbr := fun n => (hacc n true).trans (show acc n true (tk (.str "(") :: (ds.drop (b + 1)).map tk) = accD ds (b + 1) (n + 1) true by simp [tk, acc, accD, hx])
            simp [-Bool.exists_bool, hb', hat, eq_sign hvb hno, eq_sign hvb hlp, hx', hge, setV]
            have hih := ih (b + 1) (by omega) (by omega)
            simp only [Int.natCast_add, Int.cast_ofNat_Int] at hih
            refine hih.mono fun d S2 ⟨e, q⟩ => ?_
            subst e
            rcases q with ⟨c, rfl, c1, c2, c3, c4⟩ | ⟨rfl, c3⟩
            · by_cases hc : c < ds.length
              · have hc' : (c : Int) < (ds.length : Int) := by omega
                have hat2 := atD_nat hc
                have hvc := hv _ (List.getElem_mem hc)
                have hacc2 := fun n q => accD_cons (n := n) (q := q) hc
                by_cases hr2 : isS ")" ds[c] = true
                · have et : tk ds[c] = .rp := by
                    generalize ds[c] = u at hr2
                    cases u <;> first | (cases hr2; done) | skip
                    simp only [isS_str, beq_iff_eq] at hr2
                    subst hr2
                    rfl
                  simp [-Bool.exists_bool, hc', hat2, eq_sign hvc hrp, hr2]
                  refine ⟨rfl, .inl ⟨c + 1, by simp, by omega, by omega, fun n => ?_⟩⟩
                  rw [h3 n, hbr n, c3 (n + 1), hacc2 (n + 1) false, et]
                  simp [acc, accD]
                · simp [-Bool.exists_bool, hc', hat2, eq_sign hvc hrp, hr2]
                  refine ⟨rfl, .inr ⟨rfl, fun n => ?_⟩⟩
                  rw [h3 n, hbr n, c3 (n + 1), hacc2 (n + 1) false]
                  have n1 := c4 hc
                  have n2 : tk ds[c] ≠ .rp := by
                    generalize ds[c] = u at hr2
                    intro e
                    cases u <;> simp only [tk] at e <;> first | (cases e; done) | skip
                    simp only [isS_str, beq_iff_eq] at hr2
                    rw [if_neg hr2] at e
                    split at e
                    · cases e
                    · split at e <;> cases e
                  generalize tk ds[c] = u at n1 n2
                  cases u <;> first | exact absurd rfl n1 | exact absurd rfl n2 | simp [acc]
              · have hc' : ¬ (c : Int) < (ds.length : Int) := by omega
                simp [-Bool.exists_bool, hc']
                refine ⟨rfl, .inr ⟨rfl, fun n => ?_⟩⟩
                rw [h3 n, hbr n, c3 (n + 1)]
                unfold accD
                rw [List.drop_eq_nil_of_le (by omega)]
                simp [acc]
            · simp [-Bool.exists_bool]
              exact ⟨rfl, .inr ⟨rfl, fun n => by rw [h3 n, hbr n, c3 (n + 1)]⟩⟩
          · have hx2' : (x == ("(" : Str)) = false := by rw [beq_eq_false_iff_ne]; exact hx2
            simp [-Bool.exists_bool, hb', hat, eq_sign hvb hno, eq_sign hvb hlp, hx', hx2', hge]
            refine ⟨rfl, .inr ⟨rfl, fun n => ?_⟩⟩
            rw [h3 n, hacc n true]
            simp only [tk, if_neg hx, if_neg hx2]
            split <;> simp [acc]
    · have e1 := eq_sign (S := S1) hvb hno
      have e2 := eq_sign (S := S1) hvb hlp
      have ex : tk v = .x := by cases v <;> first | rfl | exact absurd rfl hs
      rw [show isS "not" v = false by cases v <;> first | rfl | exact absurd rfl hs] at e1
      rw [show isS "(" v = false by cases v <;> first | rfl | exact absurd rfl hs] at e2
      simp [-Bool.exists_bool, hb', hat, e1, e2, hge, isi_str' hvb, hs]
      refine ⟨rfl, .inl ⟨b + 1, by simp, by omega, by omega, fun n => ?_⟩⟩
      rw [h3 n, hacc n true, ex]
      simp [acc, accD]
  · have hb' : ¬ (b : Int) < (ds.length : Int) := by omega
    have hge : (ds.length : Int) ≤ (b : Int) := by omega
    simp [-Bool.exists_bool, hb', hge]
    exact ⟨rfl, .inr ⟨rfl, fun n => by rw [h3 n, accD_end (by omega)]⟩⟩

def isIn (ws : List Str) : D → Bool
  | .str x => ws.any fun w => w == x
  | _ => false
theorem depthL_strs : ∀ ws : List Str, D.depthL (ws.map D.str) = 0
  | [] => by simp [D.depthL]
  | w :: ws => by simp [D.depthL, D.depth, depthL_strs ws]
theorem in_sign {v : D} {ws : List Str} (hv : v.ok = true) (hw : ws.all PyData.strOk = true) : cmpOp .In S v (.tup (ws.map D.str)) = some (isIn ws v) := by
  have ho : inOk v (ws.map D.str) = true := by
    unfold inOk
    rw [okL_strs hw, hv, depthL_strs]
    simp
  simp only [cmp_in dct_tup dks_tup, seq_tup, Option.bind_some, flat_ok hv, ho, if_true, List.any_map]
  refine congrArg some ?_
  cases v <;> first | exact congrArg (fun f => ws.any f) (funext fun w => eqv_str_str) | (simp [isIn, D.eqv]; done)
theorem jt_of {v : D} (h : isIn ["and", "or", "unless", "onlyif"] v = true) : tk v = .jt := by
  cases v <;> simp only [isIn] at h <;> first | (cases h; done) | skip
  simp only [List.any_cons, List.any_nil, Bool.or_false, Bool.or_eq_true, beq_iff_eq] at h
  rcases h with h | h | h | h <;> subst h <;> decide +kernel
theorem not_jt {v : D} (hr : rowSign v = true) (h : ¬ isIn ["and", "or", "unless", "onlyif"] v = true) : tk v ≠ .jt := by
  cases v <;> simp only [rowSign] at hr <;> first | (cases hr; done) | skip
  · rename_i x
    simp only [isIn] at h
    rw [Bool.eq_false_iff.mpr h, Bool.false_or] at hr
    simp only [List.any_cons, List.any_nil, Bool.or_false, Bool.or_eq_true, beq_iff_eq] at hr
    rcases hr with h | h | h <;> subst h <;> decide +kernel
  · simp [tk]
theorem row_step (h : HRow T) (hv : ∀ d ∈ ds, d.ok = true) (hr : ∀ d ∈ ds, rowSign d = true) {K a : Nat} (ha : a ≤ ds.length) (hl : ds.length < 1000)
    (ih : ∀ b, a ≤ b → b ≤ ds.length → EP (callN T K 6 [.tup ds, .int b] S) (PartS ds S b)) : EP (callN T (K + 1) 5 [.tup ds, .int a] S) (RowS ds S a) := by
  refine EP_call h.h5 rfl rfl ?_
  have hjo : (["and", "or", "unless", "onlyif"] : List Str).all PyData.strOk = true := by decide +kernel
  simp only [f_row_end, b_row_end, SP_cons (s := .whl _ _)]
  simp [-Bool.exists_bool]
  refine (ih a (Nat.le_refl _) ha).mono fun d S2 ⟨e, q⟩ => ?_
  subst e
  refine SP_whl (fun m G S1 => S1 = S2 ∧ ((∃ b : Nat, G = [some (.tup ds), some (.int b)] ∧ a < b ∧ b ≤ ds.length ∧ m = ds.length - b + 1 ∧ ∀ n, accD ds a n true = accD ds b n false) ∨ (G = [some (.tup ds), some .non] ∧ m = 0 ∧ ∀ n, accD ds a n true = false)))
    (n := match d with | .int b => ds.length - b.toNat + 1 | _ => 0) ?_ ?_ ?_
  · show _ < 1048576
    rcases q with ⟨b, rfl, q1, q2, q3⟩ | ⟨rfl, q3⟩
    · simp; omega
    · simp
  · refine ⟨rfl, ?_⟩
    rcases q with ⟨b, rfl, q1, q2, q3⟩ | ⟨rfl, q3⟩
    · exact .inl ⟨b, rfl, q1, q2, by simp, q3⟩
    · exact .inr ⟨rfl, rfl, q3⟩
  · clear q
    rintro m G S1 ⟨rfl, q⟩
    rcases q with ⟨b, rfl, q1, q2, rfl, q3⟩ | ⟨rfl, rfl, q3⟩
    · by_cases hb : b < ds.length
      · have hb' : (b : Int) < (ds.length : Int) := by omega
        have hat := atD_nat hb
        have hvb := hv _ (List.getElem_mem hb)
        have hrb := hr _ (List.getElem_mem hb)
        have hin := in_sign (S := S1) hvb hjo
        simp only [List.map_cons, List.map_nil] at hin
        by_cases hj : isIn ["and", "or", "unless", "onlyif"] ds[b] = true
        · rw [hj] at hin
          simp [-Bool.exists_bool, hb', hat, hin]
          have hih := ih (b + 1) (by omega) (by omega)
          simp only [Int.natCast_add, Int.cast_ofNat_Int] at hih
          refine hih.mono fun d S2 ⟨e, q⟩ => ?_
          subst e
          have hacc : ∀ n, accD ds a n true = accD ds (b + 1) n true := fun n => by
            rw [q3 n, accD_cons hb, jt_of hj]
            simp [acc, accD]
          rcases q with ⟨c, rfl, c1, c2, c3⟩ | ⟨rfl, c3⟩
          · exact ⟨ds.length - c + 1, by omega, rfl, .inl ⟨c, rfl, by omega, c2, rfl, fun n => (hacc n).trans (c3 n)⟩⟩
          · exact ⟨0, by omega, rfl, .inr ⟨rfl, rfl, fun n => (hacc n).trans (c3 n)⟩⟩
        · rw [Bool.eq_false_iff.mpr hj] at hin
          simp [-Bool.exists_bool, hb', hat, hin]
          exact ⟨rfl, .inl ⟨b, rfl, q1, q2, q3, fun _ => not_jt hrb hj⟩⟩
      · have hb' : ¬ (b : Int) < (ds.length : Int) := by omega
        simp [-Bool.exists_bool, hb']
        exact ⟨rfl, .inl ⟨b, rfl, q1, q2, q3, fun h => absurd h hb⟩⟩
    · simp [-Bool.exists_bool]
      exact ⟨rfl, .inr ⟨rfl, q3⟩⟩
theorem part_all (h : HRow T) (hv : ∀ d ∈ ds, d.ok = true) (hr : ∀ d ∈ ds, rowSign d = true) (hl : ds.length < 1000) : ∀ (n K a : Nat), a ≤ ds.length → ds.length - a ≤ n → EP (callN T (K + 2 * n + 1) 6 [.tup ds, .int a] S) (PartS ds S a)
  | 0, K, a, ha, hn => part_step h hv hr ha hl fun b h1 h2 => by omega
  | n + 1, K, a, ha, hn => part_step h hv hr ha hl fun b h1 h2 => by
    rw [show K + 2 * (n + 1) = (K + 2 * n + 1) + 1 by omega]
    exact row_step h hv hr h2 hl fun c g1 g2 => part_all h hv hr hl n K c g2 (by omega)
theorem row_all (h : HRow T) (hv : ∀ d ∈ ds, d.ok = true) (hr : ∀ d ∈ ds, rowSign d = true) (hl : ds.length < 1000) {n K a : Nat} (ha : a ≤ ds.length) (hn : ds.length - a ≤ n) : EP (callN T (K + 2 * n + 2) 5 [.tup ds, .int a] S) (RowS ds S a) :=
  row_step h hv hr ha hl fun c g1 g2 => part_all h hv hr hl n K c g2 (by omega)
/-- the whole row is read exactly if the machine takes it -/
theorem row_end_eq {d : D} {S' : Store} (hr : ∀ d ∈ ds, rowSign d = true) (q : RowS ds S 0 d S') : S' = S ∧ ((d = .int ds.length ∧ acc 0 true (ds.map tk) = true) ∨ (d = .non ∧ acc 0 true (ds.map tk) = false) ∨ (∃ b : Nat, d = .int b ∧ b < ds.length ∧ acc 0 true (ds.map tk) = false)) := by
  obtain ⟨e, q⟩ := q
  refine ⟨e, ?_⟩
  have e0 : accD ds 0 0 true = acc 0 true (ds.map tk) := by simp [accD]
  rcases q with ⟨b, rfl, c1, c2, c3, c4⟩ | ⟨rfl, c3⟩
  · by_cases hb : b < ds.length
    · refine .inr (.inr ⟨b, rfl, hb, ?_⟩)
      rw [← e0, c3 0, accD_cons hb]
      have := c4 hb
      generalize tk ds[b] = u at this
      cases u <;> first | exact absurd rfl this | simp [acc]
    · have e : b = ds.length := by omega
      subst e
      refine .inl ⟨rfl, ?_⟩
      rw [← e0, c3 0]
      simp [accD, acc]
  · exact .inr (.inl ⟨rfl, by rw [← e0, c3 0]⟩)
end
end NW
end
section
/- What the program's is_notice, is_formula answer. -/
namespace NW
open PySem
structure HNotS (T : Nat → Option FD) : Prop extends HSgn T, HRow T where
  h7 : Is T 7 f_has_notice
  h8 : Is T 8 f_is_notice
structure HNot (T : Nat → Option FD) : Prop extends HVal T, HRow T where
  h7 : Is T 7 f_has_notice
  h8 : Is T 8 f_is_notice
theorem HNot.s {T : Nat → Option FD} (h : HNot T) : HNotS T := ⟨h.toHVal.sgn, h.toHRow, h.h7, h.h8⟩
instance {T : Nat → Option FD} : Coe (HNot T) (HNotS T) := ⟨fun h => h.s⟩
def isTup : D → Bool
  | .tup _ => true
  | _ => false
def mNotice : D → Bool
  | .tup ds => decide (1 ≤ ds.length ∧ ds.length ≤ 16) && (ds.all mSign && (decide ((ds.filter isTup).length ≤ 4) && acc 0 true (ds.map tk)))
  | _ => false
theorem mClause_tup {v : D} (h : mClause v = true) : isTup v = true := by
  cases v <;> first | rfl | (simp [mClause, mPair, mMany] at h; done)
theorem mSign_row {v : D} (h : mSign v = true) : rowSign v = true := by
  cases v <;> first | exact h | rfl | (have := mClause_tup (show mClause _ = true from h); cases this)
theorem isi_tup' {S : Store} {v : D} (hv : v.ok = true) : isi S v .tuple = some (isTup v) := by
  rw [isi_ok hv]
  cases v <;> rfl
theorem has_eq {T : Nat → Option FD} (h : HNotS T) {k : Nat} {v : D} {S : Store} (hv : v.ok = true) (hf : v.fit lineN = true) : callN T (k + 35) 7 [v] S = .ok (.bl (mNotice v)) S := by
  refine EP_pure (EP_call h.h7 rfl rfl ?_)
  cases v with
  | tup ds =>
    obtain ⟨hl, hfi⟩ := fit_tup hf
    have hoks := ok_tups hv
    by_cases h1 : 1 ≤ ds.length
    · by_cases h2 : ds.length ≤ 16
      · have h1' : (1 : Int) ≤ (ds.length : Int) := by omega
        have h2' : (ds.length : Int) ≤ 16 := by omega
        have hc : compGo (.name 1) none (evE (callN T (k + 34)) (.call 4 (.cons (.var 1) (.nil)))) ⟨ds, none⟩ [some (.tup ds), none] ds [] S = .ok (.lst (ds.map fun d => .bl (mSign d))) S :=
          compGo_map (fun d => .bl (mSign d)) hl fun x hx => ⟨_, rfl, EP_pure (by
            have := sign_eq (k := k + 30) (S := S) h.toHSgn (hoks x hx) fun ds e => by subst e; exact (fit_tup (hfi _ hx)).1
            simp [setV, this])⟩
        have hc2 : compGo (.name 1) (some (evE (callN T (k + 34)) (.isi (.var 1) .tuple))) (evE (callN T (k + 34)) (.var 1)) ⟨ds, none⟩ [some (.tup ds), none] ds [] S = .ok (.lst (ds.filter isTup)) S := by
          have := compGo_pure (tg := .name 1) (c := some (evE (callN T (k + 34)) (.isi (.var 1) .tuple))) (elt := evE (callN T (k + 34)) (.var 1)) (src := ⟨ds, none⟩) (G := [some (.tup ds), none]) (S := S) isTup id rfl ds [] (by simpa using hl) fun x hx =>
            ⟨_, rfl, EP_pure (by simp [setV, isi_tup' (hoks x hx)]), fun _ => EP_pure (by simp [setV])⟩
          rw [this]
          simp
        by_cases hs : ds.all mSign = true
        · have hs' : (ds.map mSign).all id = true := by rw [List.all_map]; exact hs
          by_cases h4 : (ds.filter isTup).length ≤ 4
          · have h4' : ¬ (4 : Int) < ((ds.filter isTup).length : Int) := by omega
            simp [-Bool.exists_bool, -List.all_map, f_has_notice, b_has_notice, wipeE, h1', h2', hc, hc2, allBl_map, hs', h4']
            have hra := row_all h.toHRow (S := S) hoks (fun d hd => mSign_row (List.all_eq_true.mp hs d hd)) (by omega) (n := 16) (K := k) (a := 0) (Nat.zero_le _) (by omega)
            refine hra.mono fun d S2 hq => ?_
            have hq2 := row_end_eq (fun d hd => mSign_row (List.all_eq_true.mp hs d hd)) hq
            clear hq
            obtain ⟨hS, hq3⟩ := hq2
            subst hS
            rcases hq3 with ⟨rfl, q⟩ | ⟨rfl, q⟩ | ⟨b, rfl, hb, q⟩
            · simp [mNotice, h1, h2, hs, h4, q]
            · simp [mNotice, q, cmp_eq, eqOk, D.ok, D.depth, D.eqv]
            · have hne : ((b : Int) == (ds.length : Int)) = false := by rw [beq_eq_false_iff_ne]; omega
              simp [mNotice, q, hne]
          · have h4' : (4 : Int) < ((ds.filter isTup).length : Int) := by omega
            simp [-Bool.exists_bool, -List.all_map, f_has_notice, b_has_notice, wipeE, h1', h2', hc, hc2, allBl_map, hs', h4', mNotice, h4]
        · have hs' : (ds.map mSign).all id = false := by rw [List.all_map]; exact Bool.eq_false_iff.mpr hs
          simp [-Bool.exists_bool, -List.all_map, f_has_notice, b_has_notice, wipeE, h1', h2', hc, allBl_map, hs', mNotice, Bool.eq_false_iff.mpr hs]
      · have h1' : (1 : Int) ≤ (ds.length : Int) := by omega
        have h2' : ¬ (ds.length : Int) ≤ 16 := by omega
        simp [-Bool.exists_bool, f_has_notice, b_has_notice, h1', h2', mNotice, h2]
    · have h1' : ¬ (1 : Int) ≤ (ds.length : Int) := by omega
      simp [-Bool.exists_bool, f_has_notice, b_has_notice, h1', mNotice, h1]
  | int i => simp [-Bool.exists_bool, f_has_notice, b_has_notice, mNotice]
  | bl b => simp [-Bool.exists_bool, f_has_notice, b_has_notice, mNotice]
  | non => simp [-Bool.exists_bool, f_has_notice, b_has_notice, mNotice]
  | str x => simp [-Bool.exists_bool, f_has_notice, b_has_notice, mNotice]
  | lst x => simp [-Bool.exists_bool, f_has_notice, b_has_notice, mNotice]
  | loc _ => simp only [D.ok] at hv; cases hv
  | fn _ => simp only [D.ok] at hv; cases hv
  | scr _ => simp only [D.ok] at hv; cases hv
theorem notice_eq {T : Nat → Option FD} (h : HNotS T) {k : Nat} {v : D} {S : Store} (hv : v.ok = true) (hf : v.fit lineN = true) : callN T (k + 36) 8 [v] S = .ok (.bl (mNotice v)) S := by
  refine EP_pure (EP_call h.h8 rfl rfl ?_)
  simp [f_is_notice, b_is_notice, has_eq h hv hf]
theorem formula_eq {T : Nat → Option FD} (h : HNot T) {k : Nat} {v : D} {S : Store} (hv : v.ok = true) (hf : v.fit lineN = true) : callN T (k + 15) 12 [v] S = .ok (.bl (mForm 10 v)) S := by
  refine EP_pure (EP_call h.h12 rfl rfl ?_)
  have := form_eq (S := S) h.toHFrm 10 k v hv hf
  simp only [Int.cast_ofNat_Int] at this
  simp [f_is_formula, b_is_formula, this]
end NW
end
section
/- The draws. -/
namespace NW
open PySem
/-! ### the source -/
def Sr (p : Nat) (S : Store) : Prop := ∃ a b : Int, S[p]? = some (.lst [.int a, .int b]) ∧ 0 ≤ a ∧ 0 ≤ b ∧ b < 2147483237
structure Up (p : Nat) (S S' : Store) : Prop where
  len : S.length ≤ S'.length
  old : ∀ q, q < S.length → q ≠ p → S'[q]? = S[q]?
  sr : Sr p S'
theorem Sr.lt {p : Nat} {S : Store} (h : Sr p S) : p < S.length := by
  obtain ⟨_, _, h, _⟩ := h
  exact (List.getElem?_eq_some_iff.mp h).1
theorem Up.trans {p : Nat} {S S' S'' : Store} (a : Up p S S') (b : Up p S' S'') : Up p S S'' := ⟨Nat.le_trans a.len b.len, fun q h n => (b.old q (Nat.lt_of_lt_of_le h a.len) n).trans (a.old q h n), b.sr⟩
theorem Up.refl {p : Nat} {S : Store} (h : Sr p S) : Up p S S := ⟨Nat.le_refl _, fun _ _ _ => rfl, h⟩
theorem Up.set {p : Nat} {S : Store} {a b : Int} (h : p < S.length) (ha : 0 ≤ a) (hb : 0 ≤ b) (hb2 : b < 2147483237) : Up p S (S.set p (.lst [.int a, .int b])) :=
  ⟨by simp, fun q _ n => List.getElem?_set_ne (Ne.symm n), a, b, by simp [h], ha, hb, hb2⟩
theorem Up.push {p : Nat} {S : Store} {o : Ob} (h : Sr p S) : Up p S (S ++ [o]) := by
  have hl := h.lt
  refine ⟨by simp, fun q hq _ => List.getElem?_append_left hq, ?_⟩
  obtain ⟨a, b, h, r⟩ := h
  exact ⟨a, b, by rw [List.getElem?_append_left hl]; exact h, r⟩
structure HSrc (T : Nat → Option FD) : Prop where
  h13 : Is T 13 f__law_source
  h14 : Is T 14 f__law_draw
  h15 : Is T 15 f__law_choice
theorem draw_ok {T : Nat → Option FD} (h : HSrc T) {k p : Nat} {m : Int} {S : Store} (hs : Sr p S) (hm : 0 < m) (hm2 : m < 1073741824) :
    EP (callN T (k + 1) 14 [.loc p, .int m] S) (fun d S' => (∃ r, d = .int r ∧ 0 ≤ r ∧ r < m) ∧ Up p S S') := by
  have hl := hs.lt
  obtain ⟨a, b, hp, ha, hb, hb2⟩ := hs
  refine EP_call h.h14 rfl rfl ?_
  by_cases h0 : 0 < a
  · simp [f__law_draw, b__law_draw, idx_loc hp, h0, hm, divOk_s hm hm2, setV, setItemD, hp, ixAt, and_assoc]
    refine ⟨Int.emod_nonneg _ (by omega), Int.emod_lt_of_pos _ hm, ?_⟩
    exact Up.set hl (Int.ediv_nonneg ha (by omega)) hb hb2
  · have hq : (S.set p (Ob.lst [D.int a, D.int ((b * 48271 + 83) % 2147483237)]))[p]? = some (.lst [D.int a, D.int ((b * 48271 + 83) % 2147483237)]) := by
      have hl' : p < List.length S := hl
      simp [hl']
    have hmu : mulOk b 48271 = true := mulOk_r (by omega) (by omega)
    have hb' : 0 ≤ (b * 48271 + 83) % 2147483237 ∧ (b * 48271 + 83) % 2147483237 < 2147483237 := ⟨Int.emod_nonneg _ (by omega), Int.emod_lt_of_pos _ (by omega)⟩
    have hmu2 : ∀ z, mulOk ((b * 48271 + 83) % 2147483237) z = true := fun z => mulOk_l (by omega) (by omega)
    have hd : divOk 41 = true := by decide
    have hd2 : divOk 32 = true := by decide
    simp [f__law_draw, b__law_draw, idx_loc hp, h0, hm, setV, setItemD, hp, ixAt, and_assoc, hmu, idx_loc hq, hmu2, hd, hd2]
    exact ⟨Int.emod_nonneg _ (by omega), Int.emod_lt_of_pos _ hm, Up.set hl ha hb'.1 hb'.2⟩
theorem choice_ok {T : Nat → Option FD} (h : HSrc T) {k p : Nat} {ds : List D} {S : Store} (hs : Sr p S) (hm : ds ≠ []) (hm2 : ds.length < 1073741824) :
    EP (callN T (k + 2) 15 [.loc p, .lst ds] S) (fun d S' => d ∈ ds ∧ Up p S S') := by
  refine EP_call h.h15 rfl rfl ?_
  have h1 : 0 < ds.length := List.length_pos_iff.mpr hm
  simp [f__law_choice, b__law_choice]
  refine (draw_ok h (k := k) hs (m := ds.length) (by omega) (by omega)).mono fun d S' ⟨⟨r, hr, h2, h3⟩, u⟩ => ?_
  subst hr
  obtain ⟨n, rfl⟩ := Int.eq_ofNat_of_zero_le h2
  have hn : n < ds.length := by omega
  simp [atD_nat hn, u]
theorem source_ok {T : Nat → Option FD} (h : HSrc T) {k : Nat} {ns : List Int} {i : Nat} {S : Store} (hi : i < 1000) : EP (callN T (k + 1) 13 [.scr ns, .int i] S) (fun d S' => d = .loc S.length ∧ S'.length = S.length + 1 ∧ (∀ q, q < S.length → S'[q]? = S[q]?) ∧ Sr S.length S') := by
  refine EP_call h.h13 rfl rfl ?_
  have e1 : ∀ z, mulOk z 16807 = true := fun z => mulOk_r (by omega) (by omega)
  have e2 : ∀ z, mulOk 10009 z = true := fun z => mulOk_l (by omega) (by omega)
  have e3 : ∀ z, mulOk 101 z = true := fun z => mulOk_l (by omega) (by omega)
  have e4 : powOk 10 17 = true := by decide
  have fin : ∀ c : Int, 0 ≤ c → SP (evSs (callN T k) (.cons (.ret (.nlst (.cons (.ite (.cmp .Gt (.var 2) (.bin .Pow (.int 10) (.int 17))) (.var 2) (.int 0)) (.cons (.bin .Mod (.cb .int (.cons (.bin .Add (.bin .Add (.bin .Mult (.var 2) (.int 16807)) (.bin .Mult (.int 10009) (.var 1))) (.int 71)) (.nil))) (.int 2147483237)) (.nil))))) (.nil)) [some (.scr ns), some (.int i), some (.int c)] S)
      (fun _ S1 => (fun d S' => d = D.loc S.length ∧ S'.length = S.length + 1 ∧ (∀ q, q < S.length → S'[q]? = S[q]?) ∧ Sr S.length S') .non S1)
      (fun d S' => d = D.loc S.length ∧ S'.length = S.length + 1 ∧ (∀ q, q < S.length → S'[q]? = S[q]?) ∧ Sr S.length S') (fun _ _ => False) := fun c hc => by
    have hb : 0 ≤ (c * 16807 + 10009 * (i : Int) + 71) % 2147483237 ∧ (c * 16807 + 10009 * (i : Int) + 71) % 2147483237 < 2147483237 := ⟨Int.emod_nonneg _ (by omega), Int.emod_lt_of_pos _ (by omega)⟩
    by_cases hg : (100000000000000000 : Int) < c
    · simp [-Bool.exists_bool, e1, e2, e4, and_assoc, hg, lineN]
      refine ⟨fun q hq => List.getElem?_append_left hq, _, _, by simp, hc, hb.1, hb.2⟩
    · simp [-Bool.exists_bool, e1, e2, e4, and_assoc, hg, lineN]
      refine ⟨fun q hq => List.getElem?_append_left hq, _, _, by simp; rfl, by omega, hb.1, hb.2⟩
  by_cases hk : i < ns.length
  · have hk' : (i : Int) < (ns.length : Int) := by omega
    have ha : idxOp S (.scr ns) (.int i) = some (.int ns[i]) := by
      show (some (ns.map D.int)).bind (fun ds => atD ds (i : Int)) = _
      rw [Option.bind_some, atD_nat (by simpa using hk)]
      simp
    have := fin (if ns[i] < 0 then -ns[i] else ns[i]) (by split <;> omega)
    simp only [f__law_source, b__law_source, SP_cons (s := .set _ _)]
    simp [-Bool.exists_bool, hk', ha, setV, and_assoc]
    simpa [-Bool.exists_bool, and_assoc] using this
  · have hk' : ¬ (i : Int) < (ns.length : Int) := by omega
    have := fin (101 * i + 47) (by omega)
    simp only [f__law_source, b__law_source, SP_cons (s := .set _ _)]
    simp [-Bool.exists_bool, hk', e3, and_assoc, setV]
    simpa [-Bool.exists_bool, and_assoc] using this
theorem draw_B {T : Nat → Option FD} (h : HSrc T) {k p : Nat} {m : Int} {S : Store} (hk : 1 ≤ k) (hs : Sr p S) (hm : 0 < m) (hm2 : m < 1073741824) :
    EP (callN T k 14 [.loc p, .int m] S) (fun d S' => (∃ r, d = .int r ∧ 0 ≤ r ∧ r < m) ∧ Up p S S') := by
  obtain ⟨j, rfl⟩ : ∃ j, k = j + 1 := ⟨k - 1, by omega⟩
  exact draw_ok h hs hm hm2
theorem choice_B {T : Nat → Option FD} (h : HSrc T) {k p : Nat} {ds : List D} {S : Store} (hk : 2 ≤ k) (hs : Sr p S) (hm : ds ≠ []) (hm2 : ds.length < 1073741824) :
    EP (callN T k 15 [.loc p, .lst ds] S) (fun d S' => d ∈ ds ∧ Up p S S') := by
  obtain ⟨j, rfl⟩ : ∃ j, k = j + 2 := ⟨k - 2, by omega⟩
  exact choice_ok h hs hm hm2
end NW
end
section
/- What a law draws: clauses, formulas. -/
namespace NW
open PySem
structure HGen (T : Nat → Option FD) : Prop extends HSrc T where
  h17 : Is T 17 f__law_clause
  h18 : Is T 18 f__law_notice
theorem pair_of {d : D} (h : d ∈ [D.tup [.str "a", .str "b"], .tup [.str "b", .str "a"]]) : ∃ s, d = .tup [.str (mk1 s), .str (mk2 s)] := by
  simp only [List.mem_cons, List.not_mem_nil, or_false] at h
  rcases h with rfl | rfl
  · exact ⟨false, rfl⟩
  · exact ⟨true, rfl⟩
theorem mark_of {d : D} (h : d ∈ [D.str "a", .str "b", .str "both"]) : ∃ m : Mk, d = .str m.s := by
  simp only [List.mem_cons, List.not_mem_nil, or_false] at h
  rcases h with rfl | rfl | rfl
  · exact ⟨.a, rfl⟩
  · exact ⟨.b, rfl⟩
  · exact ⟨.both, rfl⟩
theorem n3_of {r : Int} (h1 : 0 ≤ r) (h2 : r < 3) : ∃ n : Fin 3, 1 + r = n3 n := ⟨⟨r.toNat, by omega⟩, by show 1 + r = ((r.toNat : Nat) : Int) + 1; omega⟩
section
variable {T : Nat → Option FD} {S : Store} {p : Nat}
theorem clause_ok (h : HGen T) {k : Nat} (hk : 3 ≤ k) (hs : Sr p S) : EP (callN T k 17 [.loc p] S) (fun d S' => (∃ c : Cl, d = c.d) ∧ Up p S S') := by
  refine EP_callB h.h17 (by omega) rfl rfl ?_
  unfold f__law_clause b__law_clause
  refine SP_cons.mpr (SP_set.mpr ?_)
  simp [-SP_cons, lineN]
  refine (choice_B h.toHSrc (by omega) hs (by simp) (by decide)).mono fun d S1 ⟨hd, u1⟩ => ?_
  obtain ⟨s, rfl⟩ := pair_of hd
  simp [-SP_cons, setV]
  refine SP_cons.mpr (SP_ife.mpr ?_)
  simp [-Bool.exists_bool, -SP_cons]
  refine (draw_B h.toHSrc (by omega) u1.sr (m := 5) (by decide) (by decide)).mono fun d S2 ⟨⟨r, hr, h1, h2⟩, u2⟩ => ?_
  subst hr
  by_cases hlt : r < 2
  · simp [-Bool.exists_bool, lineN, hlt]
    refine (draw_B h.toHSrc (by omega) u2.sr (m := 3) (by decide) (by decide)).mono fun d S3 ⟨⟨r3, hr3, h3, h4⟩, u3⟩ => ?_
    subst hr3
    simp
    refine (choice_B h.toHSrc (by omega) u3.sr (by simp) (by decide)).mono fun d S4 ⟨hd, u4⟩ => ?_
    obtain ⟨m, rfl⟩ := mark_of hd
    obtain ⟨n, hn⟩ := n3_of h3 h4
    exact ⟨⟨.has n m, by rw [hn]; rfl⟩, ((u1.trans u2).trans u3).trans u4⟩
  · simp [-Bool.exists_bool, lineN, hlt]
    refine (choice_B h.toHSrc (by omega) u2.sr (by simp) (by decide)).mono fun d S3 ⟨hd, u3⟩ => ?_
    refine ⟨?_, (u1.trans u2).trans u3⟩
    simp only [List.mem_cons, List.not_mem_nil, or_false] at hd
    rcases hd with rfl | rfl | rfl | rfl
    · exact ⟨.pr .all s, rfl⟩
    · exact ⟨.pr .some s, rfl⟩
    · exact ⟨.pr .no s, rfl⟩
    · exact ⟨.alln s, rfl⟩
theorem formula_ok (h : HSrc T) (h19 : Is T 19 f__law_formula) : ∀ (n k : Nat) (S : Store), n + 2 ≤ k → Sr p S → 1 ≤ n → EP (callN T k 19 [.loc p, .int (n : Nat)] S) (fun d S' => (∃ f : Fm, d = f.d ∧ f.dep ≤ n) ∧ Up p S S') := by
  intro n
  induction n with
  | zero => intro k S hs h1; omega
  | succ n ih =>
    intro k S hk hs h1
    refine EP_callB h19 (by omega) rfl rfl ?_
    unfold f__law_formula b__law_formula
    refine SP_cons.mpr (SP_set.mpr ?_)
    simp [-SP_cons]
    refine (draw_B h (by omega) hs (m := 7) (by decide) (by decide)).mono fun d S1 ⟨⟨r, hr, h2, h3⟩, u1⟩ => ?_
    subst hr
    simp [-SP_cons, setV]
    refine SP_cons.mpr (SP_ife.mpr ?_)
    have hsub : ((n : Int) + 1 - 1) = ((n : Nat) : Int) := by omega
    -- the leaf
    have leaf : ∀ {N Bk : Env → Store → Prop} {W : Xc → Env → Store → Prop}, SPX (evSs (callN T (k - 1)) (.cons (.ife (.cmp .Eq (.bin .Mod (.var 2) (.int 2)) (.int 0)) (.cons (.set 3 (.call 15 (.cons (.var 0) (.cons (.lst (.cons (.str "least") (.cons (.str "just") (.nil)))) (.nil))))) (.cons (.ret (.tup (.cons (.var 3) (.cons (.bin .Add (.int 1) (.call 14 (.cons (.var 0) (.cons (.int 3) (.nil))))) (.cons (.call 15 (.cons (.var 0) (.cons (.lst (.cons (.str "a") (.cons (.str "b") (.cons (.str "both") (.nil))))) (.nil)))) (.nil)))))) (.nil))) (.nil)) (.cons (.ret (.bin .Add (.tup (.cons (.call 15 (.cons (.var 0) (.cons (.lst (.cons (.str "all") (.cons (.str "some") (.cons (.str "no") (.nil))))) (.nil)))) (.nil))) (.call 15 (.cons (.var 0) (.cons (.lst (.cons (.tup (.cons (.str "a") (.cons (.str "b") (.nil)))) (.cons (.tup (.cons (.str "b") (.cons (.str "a") (.nil)))) (.nil)))) (.nil)))))) (.nil)))
        [some (.loc p), some (.int ((n : Int) + 1)), some (.int r), none, none] S1) N (fun d S' => (∃ f : Fm, d = f.d ∧ f.dep ≤ n + 1) ∧ Up p S S') Bk W := fun {N Bk W} => by
      refine SP_cons.mpr (SP_ife.mpr ?_)
      by_cases hm : r % 2 = 0
      · simp [-Bool.exists_bool, -SP_cons, hm]
        refine SP_cons.mpr (SP_set.mpr ?_)
        simp [-SP_cons, lineN]
        refine EP.to (choice_B h (by omega) u1.sr (by simp) (by decide)) fun d S2 ⟨hd, u2⟩ => ?_
        obtain ⟨j, rfl⟩ : ∃ j, d = .str (jw j) := by
          simp only [List.mem_cons, List.not_mem_nil, or_false] at hd
          rcases hd with rfl | rfl
          · exact ⟨false, rfl⟩
          · exact ⟨true, rfl⟩
        simp [setV, lineN]
        refine EP.to (draw_B h (by omega) u2.sr (m := 3) (by decide) (by decide)) fun d S3 ⟨⟨r3, hr3, h5, h6⟩, u3⟩ => ?_
        subst hr3
        simp
        refine EP.to (choice_B h (by omega) u3.sr (by simp) (by decide)) fun d S4 ⟨hd, u4⟩ => ?_
        obtain ⟨m, rfl⟩ := mark_of hd
        obtain ⟨n', hn⟩ := n3_of h5 h6
        exact ⟨⟨.num j n' m, by rw [hn]; rfl, by simp [Fm.dep]⟩, ((u1.trans u2).trans u3).trans u4⟩
      · have hm1 : r % 2 = 1 := by omega
        simp [-Bool.exists_bool, -SP_cons, hm1]
        refine SP_cons.mpr (SP_ret'.mpr ?_)
        simp [lineN]
        refine EP.to (choice_B h (by omega) u1.sr (by simp) (by decide)) fun d S2 ⟨hd, u2⟩ => ?_
        obtain ⟨w, rfl⟩ : ∃ w : Fw, d = .str w.s := by
          simp only [List.mem_cons, List.not_mem_nil, or_false] at hd
          rcases hd with rfl | rfl | rfl
          · exact ⟨.all, rfl⟩
          · exact ⟨.some, rfl⟩
          · exact ⟨.no, rfl⟩
        refine EP.to (choice_B h (by omega) u2.sr (by simp) (by decide)) fun d S3 ⟨hd, u3⟩ => ?_
        obtain ⟨s, rfl⟩ := pair_of hd
        simp [lineN]
        exact ⟨⟨.pr w s, rfl, by simp [Fm.dep]⟩, (u1.trans u2).trans u3⟩
    by_cases hn : 1 ≤ n
    · by_cases h4 : 2 < r
      · have hn' : (1 : Int) < (n : Int) + 1 := by omega
        simp [-Bool.exists_bool, -SP_cons, hn', h4]
        refine SP_cons.mpr (SP_ife.mpr ?_)
        by_cases h5 : r = 3
        · subst h5
          simp [-Bool.exists_bool, -SP_cons]
          refine SP_cons.mpr (SP_ret'.mpr ?_)
          simp [hsub]
          refine EP.to (ih (k - 1) S1 (by omega) u1.sr hn) fun d S2 ⟨⟨f, e, hf⟩, u2⟩ => ?_
          subst e
          exact ⟨by decide, ⟨.not f, rfl, by simp [Fm.dep]; omega⟩, u1.trans u2⟩
        · have h5' : (r == 3) = false := beq_false_of_ne h5
          simp [-Bool.exists_bool, -SP_cons, h5']
          refine SP_cons.mpr (SP_set.mpr ?_)
          simp [-SP_cons, lineN]
          refine EP.to (choice_B h (by omega) u1.sr (by simp) (by decide)) fun d S2 ⟨hd, u2⟩ => ?_
          obtain ⟨w, rfl⟩ : ∃ w : Bw, d = .str w.s := by
            simp only [List.mem_cons, List.not_mem_nil, or_false] at hd
            rcases hd with rfl | rfl | rfl | rfl
            · exact ⟨.and, rfl⟩
            · exact ⟨.or, rfl⟩
            · exact ⟨.iff, rfl⟩
            · exact ⟨.other, rfl⟩
          simp [-SP_cons, setV]
          refine SP_cons.mpr (SP_set.mpr ?_)
          simp [-SP_cons, hsub]
          refine EP.to (ih (k - 1) S2 (by omega) u2.sr hn) fun d S3 ⟨⟨f, e, hf⟩, u3⟩ => ?_
          subst e
          simp [-SP_cons, setV]
          refine SP_cons.mpr (SP_ret'.mpr ?_)
          simp [hsub]
          refine EP.to (ih (k - 1) S3 (by omega) u3.sr hn) fun d S4 ⟨⟨g, e, hg⟩, u4⟩ => ?_
          subst e
          exact ⟨by decide, ⟨.bin w f g, rfl, by simp [Fm.dep]; omega⟩, ((u1.trans u2).trans u3).trans u4⟩
      · have hn' : (1 : Int) < (n : Int) + 1 := by omega
        simp [-Bool.exists_bool, -SP_cons, hn', h4]
        exact leaf
    · have hn' : ¬ (1 : Int) < (n : Int) + 1 := by omega
      simp [-Bool.exists_bool, -SP_cons, hn']
      exact leaf
end
end NW
end
section
/- Slices by places. -/
namespace NW
open PySem
section
variable {S : Store} {α : Type}
theorem slIx_nat {n d i : Nat} : slIx n d (some (i : Int)) = min i n := by
  show (if (i : Int) < 0 then ((i : Int) + (n : Int)).toNat else min (i : Int).toNat n) = _
  rw [if_neg (by omega), Int.toNat_natCast]
theorem cut_mid {xs : List α} {i m : Nat} : cutD xs (some (i : Int)) (some ((i : Int) + (m : Int))) = (xs.drop i).take m := by
  unfold cutD
  rw [show (i : Int) + (m : Int) = ((i + m : Nat) : Int) by omega, slIx_nat, slIx_nat]
  by_cases h : i ≤ xs.length
  · rw [Nat.min_eq_left h]
    rw [List.take_eq_take_iff, List.length_drop]
    omega
  · rw [List.drop_eq_nil_of_le (show xs.length ≤ min i xs.length by omega), List.drop_eq_nil_of_le (show xs.length ≤ i by omega)]
    simp
theorem cut_lo {xs : List α} {i : Nat} : cutD xs none (some (i : Int)) = xs.take i := by
  unfold cutD
  rw [slIx_nat]
  simp only [slIx, List.drop_zero, Nat.sub_zero]
  rw [List.take_eq_take_iff]
  omega
theorem cut_hi {xs : List α} {i : Nat} : cutD xs (some (i : Int)) none = xs.drop i := by
  unfold cutD
  rw [slIx_nat]
  simp only [slIx]
  by_cases h : i ≤ xs.length
  · rw [Nat.min_eq_left h, List.take_of_length_le (by simp)]
  · rw [List.drop_eq_nil_of_le (show xs.length ≤ min i xs.length by omega), List.drop_eq_nil_of_le (show xs.length ≤ i by omega)]
    simp
end
end NW
end
section
/- What a law draws: notices. -/
namespace NW
open PySem
/-- v is a list of these, by value or by its place -/
def Hl (S : Store) (v : D) (ds : List D) : Prop := v = .lst ds ∨ ∃ q, v = .loc q ∧ S[q]? = some (.lst ds)
section
variable {S : Store} {v : D} {ds : List D}
theorem Hl.list (h : Hl S v ds) : listOf S v = some ds := by
  rcases h with rfl | ⟨q, rfl, h⟩
  · rfl
  · exact list_loc h
theorem Hl.len (h : Hl S v ds) : callB .len S [v] = some (.int ds.length) := by
  rcases h with rfl | ⟨q, rfl, h⟩
  · rfl
  · exact len_loc h
theorem Hl.idx (h : Hl S v ds) {i : Int} : idxOp S v (.int i) = atD ds i := by
  rcases h with rfl | ⟨q, rfl, h⟩
  · rfl
  · exact idx_loc h
theorem Hl.sl (h : Hl S v ds) {l u : Option Int} : slOp S v l u = some (.lst (cutD ds l u)) := by
  rcases h with rfl | ⟨q, rfl, h⟩
  · rfl
  · show (listOf S (.loc q)).map _ = _
    rw [list_loc h]; rfl
theorem Hl.up {S' : Store} {p : Nat} (h : Hl S v ds) (u : Up p S S') (hp : ∀ q, v = .loc q → q ≠ p) : Hl S' v ds := by
  rcases h with h | ⟨q, e, h⟩
  · exact .inl h
  · exact .inr ⟨q, e, by rw [u.old q (List.getElem?_eq_some_iff.mp h).1 (hp q e)]; exact h⟩
end
theorem Up.put {p q : Nat} {S0 S : Store} {o : Ob} (u : Up p S0 S) (h1 : S0.length ≤ q) (h2 : q ≠ p) : Up p S0 (S.set q o) := by
  refine ⟨by simpa using u.len, fun r hr hn => ?_, ?_⟩
  · rw [List.getElem?_set_ne (by omega)]
    exact u.old r hr hn
  · obtain ⟨a, b, h, r⟩ := u.sr
    exact ⟨a, b, by rw [List.getElem?_set_ne h2]; exact h, r⟩
def Pt.d (P : Pt) : D := .tup (P.row.map Sg.d)
theorem ones_len (n : Bool) (c : Cl) : (ones n c).length ≤ 2 := by cases n <;> simp [ones]
theorem Pt.len (P : Pt) : P.row.length ≤ 8 := by
  cases P with
  | one n c => have := ones_len n c; simp only [Pt.row]; omega
  | grp n n1 c1 j n2 c2 =>
    have h1 := ones_len n1 c1
    have h2 := ones_len n2 c2
    have h3 : (if n then [Sg.nt] else []).length ≤ 1 := by cases n <;> simp
    simp only [Pt.row, List.length_append, List.length_cons, List.length_nil]
    omega
def clsL (ps : List Pt) : Nat := (ps.map Pt.cls).sum
def grsL (ps : List Pt) : Nat := (ps.map Pt.grs).sum
def isOne (P : Pt) : Prop := ∃ n c, P = .one n c
theorem ones_cls {ps : List Pt} (h : ∀ P ∈ ps, isOne P) : clsL ps = ps.length ∧ grsL ps = 0 := by
  induction ps with
  | nil => exact ⟨rfl, rfl⟩
  | cons P ps ih =>
    obtain ⟨n, c, rfl⟩ := h P (by simp)
    obtain ⟨h1, h2⟩ := ih fun Q hQ => h Q (by simp [hQ])
    refine ⟨?_, ?_⟩
    · show 1 + clsL ps = ps.length + 1
      omega
    · show 0 + grsL ps = 0
      omega
theorem Nt.snoc (h : Pt) (t : List (Jt × Pt)) (j : Jt) (P : Pt) : (Nt.mk h (t ++ [(j, P)])).row = (Nt.mk h t).row ++ [.jt j] ++ P.row := by
  simp [Nt.row]
theorem Nt.len (h : Pt) (t : List (Jt × Pt)) : (Nt.mk h t).row.length ≤ 8 + 9 * t.length := by
  unfold Nt.row
  have := h.len
  have h2 : (t.flatMap fun p => Sg.jt p.1 :: p.2.row).length ≤ 9 * t.length := by
    induction t with
    | nil => simp
    | cons x t ih =>
      have := x.2.len
      simp only [List.flatMap_cons, List.length_append, List.length_cons]
      omega
  simp only [List.length_append]
  omega
theorem joint_of {d : D} (h : d ∈ [D.str "and", .str "or", .str "unless", .str "onlyif"]) : ∃ j : Jt, d = (Sg.jt j).d := by
  simp only [List.mem_cons, List.not_mem_nil, or_false] at h
  rcases h with rfl | rfl | rfl | rfl
  · exact ⟨.and, rfl⟩
  · exact ⟨.or, rfl⟩
  · exact ⟨.unless, rfl⟩
  · exact ⟨.onlyif, rfl⟩
theorem joint6_of {d : D} (h : d ∈ [D.str "and", .str "and", .str "or", .str "or", .str "unless", .str "onlyif"]) : ∃ j : Jt, d = (Sg.jt j).d := by
  refine joint_of ?_
  simp only [List.mem_cons, List.not_mem_nil, or_false] at h ⊢
  rcases h with h | h | h | h | h | h <;> simp [h]
section
variable {T : Nat → Option FD} {p : Nat}
/-- the turns that make the parts -/
def I1 (p m q n : Nat) (S0 : Store) (xs : List D) (G : Env) (S : Store) : Prop :=
  ∃ (ps : List Pt) (o3 o5 : Option D), G = [some (.loc p), some (.int m), some (.loc q), o3, none, o5, none, none, none] ∧ Up p S0 S ∧ S[q]? = some (.lst (ps.map Pt.d)) ∧ ps.length + xs.length = n ∧ ∀ P ∈ ps, isOne P
theorem parts_ok (h : HGen T) {k m q n : Nat} {S0 : Store} (hk : 3 ≤ k) (hn : n ≤ 1000) (hq : S0.length ≤ q) (hp : q ≠ p) {x : D} {xs : List D} {G : Env} {S : Store} (i : I1 p m q n S0 (x :: xs) G S) :
    ∃ G2, setTg G (.name 3) x = some G2 ∧ SP (evSs (callN T k) (.cons (.set 5 (.tup (.cons (.call 17 (.cons (.var 0) (.nil))) (.nil)))) (.cons (.ife (.cmp .Eq (.call 14 (.cons (.var 0) (.cons (.int 4) (.nil)))) (.int 0)) (.cons (.set 5 (.bin .Add (.tup (.cons (.str "not") (.nil))) (.var 5))) (.nil)) (.nil)) (.cons (.app (.var 2) (.var 5)) (.nil)))) G2 S) (I1 p m q n S0 xs) (fun _ _ => False) (fun _ _ => False) := by
  obtain ⟨ps, o3, o5, rfl, u, hS, hl, hO⟩ := i
  refine ⟨_, rfl, SP_cons.mpr (SP_set.mpr ?_)⟩
  simp [-SP_cons, setV]
  refine (clause_ok h hk u.sr).mono fun d S1 ⟨⟨c, hd⟩, u1⟩ => ?_
  subst hd
  simp [-SP_cons, lineN]
  have hS1 : S1[q]? = some (.lst (ps.map Pt.d)) := by rw [u1.old q (List.getElem?_eq_some_iff.mp hS).1 hp]; exact hS
  refine SP_cons.mpr (SP_ife.mpr ?_)
  simp [-Bool.exists_bool, -SP_cons]
  refine (draw_B h.toHSrc (by omega) u1.sr (m := 4) (by decide) (by decide)).mono fun d S2 ⟨⟨r, hr, h2, h3⟩, u2⟩ => ?_
  subst hr
  have hS2 : S2[q]? = some (.lst (ps.map Pt.d)) := by rw [u2.old q (List.getElem?_eq_some_iff.mp hS1).1 hp]; exact hS1
  have hpl : ps.length < 16777216 := by simp at hl; omega
  have fin : ∀ b : Bool, ∃ S3, appD S2 (.loc q) (Pt.one b c).d = some S3 ∧ I1 p m q n S0 xs [some (.loc p), some (.int m), some (.loc q), some x, none, some (Pt.one b c).d, none, none, none] S3 := fun b => by
    refine ⟨S2.set q (.lst (ps.map Pt.d ++ [(Pt.one b c).d])), ?_, ps ++ [.one b c], some x, some (Pt.one b c).d, rfl, Up.put ((u.trans u1).trans u2) hq hp, ?_, ?_, ?_⟩
    · simp [appD, hS2, lineN, hpl]
    · have := (List.getElem?_eq_some_iff.mp hS2).1
      simp [this]
    · simp at hl ⊢; omega
    · intro P hP
      rcases List.mem_append.mp hP with hP | hP
      · exact hO P hP
      · rw [List.mem_singleton.mp hP]; exact ⟨b, c, rfl⟩
  by_cases h0 : r = 0
  · subst h0
    simp [-Bool.exists_bool, setV, lineN, list_loc hS2]
    exact fin true
  · have h0' : (r == 0) = false := beq_false_of_ne h0
    simp [-Bool.exists_bool, h0', list_loc hS2]
    exact fin false
/-- the list of the parts, behind what may be put together -/
def P2 (p m : Nat) (S0 : Store) (G : Env) (S : Store) : Prop :=
  ∃ (ps : List Pt) (v : D) (o3 o5 o6 o7 o8 : Option D), G = [some (.loc p), some (.int m), some v, o3, none, o5, o6, o7, o8] ∧ Up p S0 S ∧ Hl S v (ps.map Pt.d) ∧ (∀ q, v = .loc q → q ≠ p) ∧ ps ≠ [] ∧ clsL ps ≤ m ∧ ps.length ≤ m ∧ grsL ps ≤ 1
theorem cut_row (n1 n2 : Bool) (c1 c2 : Cl) (j : Jt) : [D.str "("] ++ (ones n1 c1).map Sg.d ++ [(Sg.jt j).d] ++ (ones n2 c2).map Sg.d ++ [D.str ")"] = (Pt.grp false n1 c1 j n2 c2).row.map Sg.d := by
  simp [Pt.row, Sg.d]
theorem group_ok (h : HGen T) {k m q n : Nat} {S0 : Store} (hk : 3 ≤ k) (hm : m ≤ 1000) (hn : n ≤ m) (h1 : 1 ≤ n) (hq : S0.length ≤ q) (hp : q ≠ p) {G : Env} {S : Store} (i : I1 p m q n S0 [] G S) :
    SP (evS (callN T k) (.ife (.and (.cons (.cmp .Gt (.cb .len (.cons (.var 2) (.nil))) (.int 1)) (.cons (.cmp .Eq (.call 14 (.cons (.var 0) (.cons (.int 3) (.nil)))) (.int 0)) (.nil)))) (.cons (.set 6 (.call 14 (.cons (.var 0) (.cons (.bin .Sub (.cb .len (.cons (.var 2) (.nil))) (.int 1)) (.nil))))) (.cons (.set 7 (.call 15 (.cons (.var 0) (.cons (.lst (.cons (.str "and") (.cons (.str "or") (.cons (.str "unless") (.cons (.str "onlyif") (.nil)))))) (.nil))))) (.cons (.set 8 (.bin .Add (.bin .Add (.bin .Add (.bin .Add (.tup (.cons (.str "(") (.nil))) (.idx (.var 2) (.var 6))) (.tup (.cons (.var 7) (.nil)))) (.idx (.var 2) (.bin .Add (.var 6) (.int 1)))) (.tup (.cons (.str ")") (.nil))))) (.cons (.set 2 (.bin .Add (.bin .Add (.sl (.var 2) (.none) (.some (.var 6))) (.lst (.cons (.ite (.cmp .Eq (.call 14 (.cons (.var 0) (.cons (.int 3) (.nil)))) (.int 0)) (.bin .Add (.tup (.cons (.str "not") (.nil))) (.var 8)) (.var 8)) (.nil)))) (.sl (.var 2) (.some (.bin .Add (.var 6) (.int 2))) (.none)))) (.nil))))) (.nil)) G S) (P2 p m S0) (fun _ _ => False) (fun _ _ => False) := by
  obtain ⟨ps, o3, o5, rfl, u, hS, hl, hO⟩ := i
  simp only [List.length_nil, Nat.add_zero] at hl
  have stay : ∀ {S1 : Store}, Up p S S1 → P2 p m S0 [some (.loc p), some (.int m), some (.loc q), o3, none, o5, none, none, none] S1 := fun {S1} u1 => by
    have := ones_cls hO
    refine ⟨ps, .loc q, o3, o5, none, none, none, rfl, u.trans u1, (Hl.up (.inr ⟨q, rfl, hS⟩) u1 fun q' e => (by cases e; exact hp)), fun q' e => (by cases e; exact hp), ?_, by omega, by omega, by omega⟩
    rintro rfl
    simp at hl; omega
  refine SP_ife.mpr ?_
  by_cases hl1 : 1 < ps.length
  · have hl1' : (1 : Int) < ((ps.map Pt.d).length : Int) := by simp; omega
    simp [-Bool.exists_bool, -List.length_map, -SP_cons, len_loc hS, hl1']
    refine (draw_B h.toHSrc (by omega) u.sr (m := 3) (by decide) (by decide)).mono fun d S1 ⟨⟨r, hr, h2, h3⟩, u1⟩ => ?_
    subst hr
    by_cases h0 : r = 0
    · subst h0
      have hS1 : S1[q]? = some (.lst (ps.map Pt.d)) := by rw [u1.old q (List.getElem?_eq_some_iff.mp hS).1 hp]; exact hS
      simp [-Bool.exists_bool, -SP_cons]
      refine SP_cons.mpr (SP_set.mpr ?_)
      simp [-Bool.exists_bool, -SP_cons, len_loc hS1]
      refine (draw_B h.toHSrc (by omega) u1.sr (m := (ps.length : Int) - 1) (by omega) (by omega)).mono fun d S2 ⟨⟨r2, hr, h4, h5⟩, u2⟩ => ?_
      subst hr
      obtain ⟨a, rfl⟩ := Int.eq_ofNat_of_zero_le h4
      have ha : a + 1 < ps.length := by omega
      have hS2 : S2[q]? = some (.lst (ps.map Pt.d)) := by rw [u2.old q (List.getElem?_eq_some_iff.mp hS1).1 hp]; exact hS1
      simp [-Bool.exists_bool, -SP_cons, setV]
      refine SP_cons.mpr (SP_set.mpr ?_)
      simp [-Bool.exists_bool, -SP_cons, lineN]
      refine (choice_B h.toHSrc (by omega) u2.sr (by simp) (by decide)).mono fun d S3 ⟨hd, u3⟩ => ?_
      obtain ⟨j, rfl⟩ := joint_of hd
      have hS3 : S3[q]? = some (.lst (ps.map Pt.d)) := by rw [u3.old q (List.getElem?_eq_some_iff.mp hS2).1 hp]; exact hS2
      obtain ⟨n1, c1, e1⟩ := hO ps[a] (List.getElem_mem (by omega))
      obtain ⟨n2, c2, e2⟩ := hO ps[a + 1] (List.getElem_mem ha)
      have i1 : atD (ps.map Pt.d) (a : Int) = some (.tup ((ones n1 c1).map Sg.d)) := by
        rw [atD_nat (by simp; omega), List.getElem_map, e1]; rfl
      have i2 : atD (ps.map Pt.d) ((a : Int) + 1) = some (.tup ((ones n2 c2).map Sg.d)) := by
        have := atD_nat (ds := ps.map Pt.d) (k := a + 1) (by simpa using ha)
        rw [List.getElem_map, e2] at this
        exact (by simpa using this : atD (ps.map Pt.d) ((a : Int) + 1) = some (Pt.one n2 c2).d)
      have l1 := ones_len n1 c1
      have l2 := ones_len n2 c2
      simp [-Bool.exists_bool, -SP_cons, setV]
      refine SP_cons.mpr (SP_set.mpr ?_)
      simp [-Bool.exists_bool, -SP_cons, idx_loc hS3, i1, i2, lineN, and_assoc]
      refine ⟨by omega, by omega, by omega, ?_⟩
      have hw : D.str "(" :: ((ones n1 c1).map Sg.d ++ (Sg.jt j).d :: ((ones n2 c2).map Sg.d ++ [D.str ")"])) = (Pt.grp false n1 c1 j n2 c2).row.map Sg.d := by
        rw [← cut_row]; simp
      rw [hw]
      simp [-Bool.exists_bool, -SP_cons, setV]
      refine ⟨by omega, SP_cons.mpr (SP_set.mpr ?_)⟩
      have hsl : ∀ {S' : Store} {l u : Option Int}, S'[q]? = some (.lst (ps.map Pt.d)) → slOp S' (.loc q) l u = some (.lst (cutD (ps.map Pt.d) l u)) := fun hq => Hl.sl (.inr ⟨q, rfl, hq⟩)
      have k1 : cutD (ps.map Pt.d) none (some (a : Int)) = (ps.take a).map Pt.d := by rw [cut_lo, List.map_take]
      have k2 : cutD (ps.map Pt.d) (some ((a : Int) + 2)) none = (ps.drop (a + 2)).map Pt.d := by
        rw [show (a : Int) + 2 = ((a + 2 : Nat) : Int) by omega, cut_hi, List.map_drop]
      simp [-Bool.exists_bool, -SP_cons, -List.map_take, -List.map_drop, hsl hS3, k1]
      refine (draw_B h.toHSrc (by omega) u3.sr (m := 3) (by decide) (by decide)).mono fun d S4 ⟨⟨r4, hr, h6, h7⟩, u4⟩ => ?_
      subst hr
      have hS4 : S4[q]? = some (.lst (ps.map Pt.d)) := by rw [u4.old q (List.getElem?_eq_some_iff.mp hS3).1 hp]; exact hS3
      have lg := (Pt.grp false n1 c1 j n2 c2).len
      have fin : ∀ b : Bool, P2 p m S0 [some (.loc p), some (.int m), some (.lst ((ps.take a ++ (Pt.grp b n1 c1 j n2 c2 :: ps.drop (a + 2))).map Pt.d)), o3, none, o5, some (.int a), some (Sg.jt j).d, some (.tup ((Pt.grp false n1 c1 j n2 c2).row.map Sg.d))] S4 := fun b => by
        have hsplit : ps = ps.take a ++ (ps[a] :: ps[a + 1] :: ps.drop (a + 2)) := by
          conv => lhs; rw [← List.take_append_drop a ps]
          rw [List.drop_eq_getElem_cons (by omega : a < ps.length), List.drop_eq_getElem_cons ha]
        obtain ⟨cs, gs⟩ := ones_cls hO
        have cs2 : clsL ps = clsL (ps.take a ++ (Pt.grp b n1 c1 j n2 c2 :: ps.drop (a + 2))) := by
          conv => lhs; rw [hsplit]
          rw [e1, e2]
          simp only [clsL, List.map_append, List.map_cons, List.sum_append, List.sum_cons, Pt.cls]
          omega
        have gs2 : grsL (ps.take a ++ (Pt.grp b n1 c1 j n2 c2 :: ps.drop (a + 2))) = grsL ps + 1 := by
          conv => rhs; rw [hsplit]
          rw [e1, e2]
          simp only [grsL, List.map_append, List.map_cons, List.sum_append, List.sum_cons, Pt.grs]
          omega
        refine ⟨_, _, _, _, _, _, _, rfl, ((((u.trans u1).trans u2).trans u3).trans u4), .inl rfl, fun q' e => (by cases e), (by simp), by omega, ?_, by omega⟩
        simp
        omega
      have lt : ((ps.take a).map Pt.d).length ≤ 1000 := by simp; omega
      have ld : ((ps.drop (a + 2)).map Pt.d).length ≤ 1000 := by simp; omega
      by_cases h8 : r4 = 0
      · subst h8
        have hn1 : D.tup (D.str "not" :: (Pt.grp false n1 c1 j n2 c2).row.map Sg.d) = (Pt.grp true n1 c1 j n2 c2).d := by simp [Pt.d, Pt.row, Sg.d]
        simp [-Bool.exists_bool, -SP_cons, -List.map_take, -List.map_drop, -List.length_map, -List.length_take, -List.length_drop, lineN, hsl hS4, k2, and_assoc, setV]
        refine ⟨by simp; omega, by omega, by omega, ?_⟩
        have := fin true
        simpa [hn1] using this
      · have h8' : (r4 == 0) = false := beq_false_of_ne h8
        have hn1 : D.tup ((Pt.grp false n1 c1 j n2 c2).row.map Sg.d) = (Pt.grp false n1 c1 j n2 c2).d := rfl
        simp [-Bool.exists_bool, -SP_cons, -List.map_take, -List.map_drop, -List.length_map, -List.length_take, -List.length_drop, lineN, hsl hS4, k2, and_assoc, h8', setV]
        refine ⟨by omega, by omega, ?_⟩
        have := fin false
        simpa [hn1] using this
    · have h0' : (r == 0) = false := beq_false_of_ne h0
      simp [-Bool.exists_bool, h0']
      exact stay u1
  · have hl1' : ¬ (1 : Int) < ((ps.map Pt.d).length : Int) := by simp; omega
    simp [-Bool.exists_bool, -List.length_map, len_loc hS, hl1']
    exact stay (.refl u.sr)
/-- the turns that join the parts -/
def I3 (p m : Nat) (S0 : Store) (hd : Pt) (rest : List Pt) (xs : List D) (G : Env) (S : Store) : Prop :=
  ∃ (t : List (Jt × Pt)) (ys : List Pt) (o2 o3 o5 o6 o7 o8 : Option D), G = [some (.loc p), some (.int m), o2, o3, some (Nt.mk hd t).d, o5, o6, o7, o8] ∧ Up p S0 S ∧ rest = t.map (·.2) ++ ys ∧ xs = ys.map Pt.d
theorem notice_ok (h : HGen T) {k m : Nat} {S0 : Store} (hk : 4 ≤ k) (hm : m ≤ 1000) (hm1 : 1 ≤ m) (hs : Sr p S0) : EP (callN T k 18 [.loc p, .int (m : Nat)] S0) (fun d S' => (∃ n : Nt, d = n.d ∧ n.cls ≤ m ∧ n.tl.length < m ∧ n.grs ≤ 1) ∧ Up p S0 S') := by
  refine EP_callB h.h18 (by omega) rfl rfl ?_
  unfold f__law_notice b__law_notice
  refine SP_cons.mpr (SP_set.mpr ?_)
  have hp : S0.length ≠ p := by have := hs.lt; omega
  simp [-SP_cons, lineN, setV]
  refine SP_cons.mpr (SP_for.mpr ?_)
  simp [-SP_cons, lineN]
  refine (draw_B h.toHSrc (by omega) (Up.push hs).sr (m := m) (by omega) (by omega)).mono fun d S1 ⟨⟨r, hr, h2, h3⟩, u1⟩ => ?_
  subst hr
  obtain ⟨r, rfl⟩ := Int.eq_ofNat_of_zero_le h2
  have hro : rngOk 0 (1 + (r : Int)) = true := by
    unfold rngOk
    rw [decide_eq_true_eq]
    omega
  simp [-SP_cons, hro]
  have hrl : (rngD 0 (1 + (r : Int)).toNat).length = r + 1 := by simp [rngD]; omega
  refine SP_forGo (I1 p m S0.length (r + 1) S0) (fun _ _ _ _ => rfl) ?_ ?_ _ _ _ ⟨[], none, none, rfl, (Up.push hs).trans u1, ?_, (by rw [hrl]; simp), fun _ z => (by simp at z)⟩
  case refine_3 =>
    rw [u1.old _ (by simp) hp]
    simp
  case refine_2 =>
    intro x xs G S i
    obtain ⟨G2, h1, h2⟩ := parts_ok h (k := k - 1) (by omega) (by omega) (Nat.le_refl _) hp i
    exact ⟨G2, h1, SP.to h2 (fun _ _ z => z) (fun _ _ z => False.elim z) (fun _ _ z => False.elim z)⟩
  intro G S i
  refine SP_cons.mpr (SP.to (group_ok h (by omega) hm (by omega) (by omega) (Nat.le_refl _) hp i) ?_ (fun _ _ z => False.elim z) (fun _ _ z => False.elim z))
  rintro G2 S2 ⟨ps, v, o3, o5, o6, o7, o8, rfl, u, hv, hvp, hne, hc, hl, hg⟩
  obtain ⟨hd, rest, rfl⟩ : ∃ a l, ps = a :: l := by
    cases ps with
    | nil => exact absurd rfl hne
    | cons a l => exact ⟨a, l, rfl⟩
  refine SP_cons.mpr (SP_set.mpr ?_)
  simp [-SP_cons, hv.idx, setV]
  refine SP_cons.mpr (SP_for.mpr ?_)
  have kc : cutD (Pt.d hd :: rest.map Pt.d) (some 1) none = rest.map Pt.d := by
    have := cut_hi (xs := Pt.d hd :: rest.map Pt.d) (i := 1)
    simpa using this
  have hv' : Hl S2 v (Pt.d hd :: rest.map Pt.d) := hv
  simp [-SP_cons, hv'.sl, kc]
  refine SP_forGo (I3 p m S0 hd rest) (fun _ _ _ _ => rfl) ?_ ?_ _ _ _ ⟨[], rest, some v, o3, o5, o6, o7, o8, ?_, u, rfl, rfl⟩
  case refine_3 => simp [Nt.d, Nt.row, Pt.d]
  · rintro G S ⟨t, ys, o2, o3, o5, o6, o7, o8, rfl, u, e, e2⟩
    have hy : ys = [] := by cases ys <;> first | rfl | cases e2
    subst hy
    rw [List.append_nil] at e
    simp
    refine ⟨⟨⟨hd, t⟩, rfl, ?_, ?_, ?_⟩, u⟩
    · subst e
      simp only [clsL, List.map_cons, List.sum_cons, List.map_map] at hc
      simpa [Nt.cls, Function.comp_def] using hc
    · subst e
      simp only [List.length_cons, List.length_map] at hl
      show t.length < m
      omega
    · subst e
      simp only [grsL, List.map_cons, List.sum_cons, List.map_map] at hg
      simpa [Nt.grs, Function.comp_def] using hg
  · rintro x xs G S ⟨t, ys, o2, o3, o5, o6, o7, o8, rfl, u, e, e2⟩
    obtain ⟨P, ys, rfl⟩ : ∃ a l, ys = a :: l := by
      cases ys with
      | nil => cases e2
      | cons a l => exact ⟨a, l, rfl⟩
    simp only [List.map_cons, List.cons.injEq] at e2
    obtain ⟨rfl, rfl⟩ := e2
    refine ⟨_, rfl, SP_cons.mpr (SP_set.mpr ?_)⟩
    simp [-SP_cons, setV, lineN]
    refine (choice_B h.toHSrc (by omega) u.sr (by simp) (by decide)).mono fun d S2 ⟨hd2, u2⟩ => ?_
    obtain ⟨j, rfl⟩ := joint6_of hd2
    have l1 := Nt.len hd t
    have l2 := P.len
    have l3 : t.length ≤ 1000 := by
      have := congrArg List.length e
      simp at this hl
      omega
    simp [-SP_cons, lineN, Nt.d, Pt.d, and_assoc]
    refine ⟨by omega, by omega, ?_⟩
    refine ⟨t ++ [(j, P)], ys, o2, o3, some P.d, o6, o7, o8, ?_, u.trans u2, by simp [e], rfl⟩
    simp [Nt.d, Nt.snoc, Pt.d]
end
end NW
end
section
/- What is drawn is taken: facts of the drawn notices. -/
namespace NW
open PySem
theorem mSign_not {v : D} (h : isStr v = false) : mSign v = mClause v := by cases v <;> first | rfl | cases h
theorem Cl.ok (c : Cl) : c.d.ok = true ∧ c.d.fit 3 = true ∧ c.d.depth = 1 ∧ mClause c.d = true := by
  cases c with
  | pr w s => cases w <;> cases s <;> decide +kernel
  | alln s => cases s <;> decide +kernel
  | has n m =>
    revert n
    cases m <;> decide +kernel
theorem Sg.ok (s : Sg) : s.d.ok = true ∧ s.d.fit 3 = true ∧ s.d.depth ≤ 1 ∧ mSign s.d = true := by
  cases s with
  | cl c =>
    obtain ⟨h1, h2, h3, h4⟩ := c.ok
    refine ⟨h1, h2, Nat.le_of_eq h3, ?_⟩
    show mSign c.d = true
    rw [mSign_not]
    · exact h4
    · cases c <;> rfl
  | jt j => cases j <;> decide +kernel
  | nt => decide +kernel
  | lp => decide +kernel
  | rp => decide +kernel
theorem Sg.tup (s : Sg) : isTup s.d = (match s with | .cl _ => true | _ => false) := by
  cases s with
  | cl c => cases c <;> rfl
  | _ => rfl
theorem Sg.tk_cl (c : Cl) : tk (Sg.cl c).d = .x := by cases c <;> rfl
theorem Sg.tk_jt (j : Jt) : tk (Sg.jt j).d = .jt := by cases j <;> decide +kernel
theorem Sg.tk_nt : tk Sg.nt.d = .nt := by decide +kernel
theorem Sg.tk_lp : tk Sg.lp.d = .lp := by decide +kernel
theorem Sg.tk_rp : tk Sg.rp.d = .rp := by decide +kernel
def tks (row : List Sg) : List Tk := row.map fun s => tk s.d
theorem ones_acc (n : Bool) (c : Cl) (d : Nat) (r : List Tk) : acc d true (tks (ones n c) ++ r) = acc d false r := by
  cases n <;> simp [tks, ones, acc, Sg.tk_cl, Sg.tk_nt]
theorem Pt.acc (P : Pt) (d : Nat) (r : List Tk) : NW.acc d true (tks P.row ++ r) = NW.acc d false r := by
  cases P with
  | one n c => exact ones_acc n c d r
  | grp n n1 c1 j n2 c2 =>
    have e : ∀ r, NW.acc d true (.lp :: (tks (ones n1 c1) ++ (.jt :: (tks (ones n2 c2) ++ (.rp :: r))))) = NW.acc d false r := fun r => by
      simp only [NW.acc, ones_acc]
    have e2 := e r
    cases n <;> simp [Pt.row, tks, NW.acc, Sg.tk_cl, Sg.tk_nt, Sg.tk_lp, Sg.tk_rp, Sg.tk_jt] <;> simpa [tks, NW.acc] using e2
theorem tl_acc (t : List (Jt × Pt)) (d : Nat) (r : List Tk) : NW.acc d false (tks (t.flatMap fun p => Sg.jt p.1 :: p.2.row) ++ r) = NW.acc d false r := by
  induction t with
  | nil => rfl
  | cons x t ih =>
    have : tks ((x :: t).flatMap fun p => Sg.jt p.1 :: p.2.row) ++ r = .jt :: (tks x.2.row ++ (tks (t.flatMap fun p => Sg.jt p.1 :: p.2.row) ++ r)) := by
      simp [tks, Sg.tk_jt]
    rw [this]
    simp only [NW.acc, Pt.acc, ih]
theorem Nt.acc (n : Nt) : NW.acc 0 true (tks n.row) = true := by
  have : tks n.row = tks n.hd.row ++ (tks (n.tl.flatMap fun p => Sg.jt p.1 :: p.2.row) ++ []) := by simp [tks, Nt.row]
  rw [this, Pt.acc, tl_acc]
  rfl
def clc (row : List Sg) : Nat := ((row.map Sg.d).filter isTup).length
theorem clc_app (a b : List Sg) : clc (a ++ b) = clc a + clc b := by simp [clc]
theorem clc_cons (s : Sg) (a : List Sg) : clc (s :: a) = clc [s] + clc a := clc_app [s] a
theorem clc_cl (c : Cl) : clc [.cl c] = 1 := by simp [clc, Sg.tup]
theorem clc_jt (j : Jt) : clc [.jt j] = 0 := by simp [clc, Sg.tup]
theorem clc_nt : clc [.nt] = 0 := by simp [clc, Sg.tup]
theorem clc_lp : clc [.lp] = 0 := by simp [clc, Sg.tup]
theorem clc_rp : clc [.rp] = 0 := by simp [clc, Sg.tup]
theorem clc_nil : clc [] = 0 := rfl
theorem ones_clc (n : Bool) (c : Cl) : clc (ones n c) = 1 := by
  cases n
  · exact clc_cl c
  · show clc [.nt, .cl c] = 1
    rw [clc_cons, clc_nt, clc_cl]
theorem Pt.clc (P : Pt) : NW.clc P.row = P.cls := by
  cases P with
  | one n c => exact ones_clc n c
  | grp n n1 c1 j n2 c2 =>
    simp only [Pt.row, clc_app, clc_lp, clc_jt, clc_rp, ones_clc, Pt.cls]
    cases n <;> simp [clc_nt, clc_nil]
theorem Nt.clc (n : Nt) : NW.clc n.row = n.cls := by
  unfold Nt.row Nt.cls
  rw [clc_app, Pt.clc]
  congr 1
  induction n.tl with
  | nil => rfl
  | cons x t ih =>
    rw [List.flatMap_cons, clc_app, clc_cons, clc_jt, Pt.clc, ih]
    simp
theorem Pt.len2 (P : Pt) : P.row.length ≤ 2 * P.cls + 4 * P.grs := by
  cases P with
  | one n c => exact ones_len n c
  | grp n n1 c1 j n2 c2 => exact Pt.len _
theorem Nt.len2 (n : Nt) : n.row.length ≤ 2 * n.cls + 4 * n.grs + n.tl.length := by
  unfold Nt.row Nt.cls Nt.grs
  have := n.hd.len2
  rw [List.length_append]
  have h : (n.tl.flatMap fun p => Sg.jt p.1 :: p.2.row).length ≤ 2 * (n.tl.map fun p => p.2.cls).sum + 4 * (n.tl.map fun p => p.2.grs).sum + n.tl.length := by
    induction n.tl with
    | nil => simp
    | cons x t ih =>
      have := x.2.len2
      simp only [List.flatMap_cons, List.length_append, List.length_cons, List.map_cons, List.sum_cons]
      omega
  omega
theorem one_le (n : Nt) : 1 ≤ n.row.length := by
  have : 1 ≤ n.hd.row.length := by
    cases n.hd with
    | one n c => cases n <;> simp [Pt.row, ones]
    | grp n n1 c1 j n2 c2 => simp [Pt.row]; omega
  simp only [Nt.row, List.length_append]
  omega
theorem Nt.taken (n : Nt) (h1 : n.cls ≤ 4) (h2 : n.tl.length < 4) (h3 : n.grs ≤ 1) : mNotice n.d = true := by
  have hl := n.len2
  have h0 := one_le n
  have ha : (n.row.map Sg.d).all mSign = true := by
    rw [List.all_map, List.all_eq_true]
    exact fun s _ => s.ok.2.2.2
  have hc : ((n.row.map Sg.d).filter isTup).length ≤ 4 := by
    have := n.clc
    unfold NW.clc at this
    omega
  have hacc : NW.acc 0 true ((n.row.map Sg.d).map tk) = true := by
    rw [List.map_map]
    exact n.acc
  show (decide (1 ≤ (n.row.map Sg.d).length ∧ (n.row.map Sg.d).length ≤ 16) && ((n.row.map Sg.d).all mSign && (decide (((n.row.map Sg.d).filter isTup).length ≤ 4) && NW.acc 0 true ((n.row.map Sg.d).map tk)))) = true
  rw [ha, hacc, decide_eq_true hc, decide_eq_true ⟨by simpa using h0, by rw [List.length_map]; omega⟩]
  rfl
theorem fitL_map {α : Type} {n : Nat} (f : α → D) (l : List α) (h : ∀ a ∈ l, (f a).fit n = true) : D.fitL n (l.map f) = true := by
  rw [fitL_all, List.all_map, List.all_eq_true]
  exact h
theorem depthL_map {α : Type} {n : Nat} (f : α → D) : ∀ (l : List α), (∀ a ∈ l, (f a).depth ≤ n) → D.depthL (l.map f) ≤ n
  | [], _ => by simp [D.depthL]
  | a :: l, h => by
    have h1 := h a (by simp)
    have h2 := depthL_map f l fun b hb => h b (by simp [hb])
    simp only [List.map_cons, D.depthL]
    omega
theorem Nt.plain (n : Nt) (h1 : n.cls ≤ 4) (h2 : n.tl.length < 4) (h3 : n.grs ≤ 1) : n.d.ok = true ∧ n.d.fit 16 = true ∧ n.d.depth ≤ 4 := by
  have hl := n.len2
  refine ⟨?_, ?_, ?_⟩
  · show (D.tup (n.row.map Sg.d)).ok = true
    rw [ok_tup, okL_all, List.all_map, List.all_eq_true]
    exact fun s _ => s.ok.1
  · show (D.tup (n.row.map Sg.d)).fit 16 = true
    simp only [D.fit, Bool.and_eq_true, decide_eq_true_eq, List.length_map]
    exact ⟨by omega, fitL_map _ _ fun s _ => fit_le (by decide) _ s.ok.2.1⟩
  · show (D.tup (n.row.map Sg.d)).depth ≤ 4
    have := depthL_map Sg.d n.row (n := 1) fun s _ => s.ok.2.2.1
    simp only [D.depth]
    omega
end NW
end
section
/- Texts: plain signs, split and joined. -/
namespace NW
open PySem TL
/-- all signs of a text are plain -/
def asc (x : Str) : Prop := ∀ c ∈ tl x, c < 128
def ascB (x : Str) : Bool := (tl x).all (decide <| · < 128)
theorem asc_by {x : Str} (h : ascB x = true) : asc x := fun c hc => of_decide_eq_true (List.all_eq_true.mp h c hc)
theorem asc_ok {x : Str} (h : asc x) : PyData.strOk x = true := by
  unfold PyData.strOk
  rw [Array.all_eq_true_iff_forall_mem]
  intro c hc
  have := h c (Array.mem_toList_iff.mpr hc)
  exact decide_eq_true (by omega)
theorem asc_app {x y : Str} (h : asc x) (h2 : asc y) : asc (x ++ y) := fun c hc => by
  rw [tl_append] at hc
  exact (List.mem_append.mp hc).elim (h c) (h2 c)
theorem asc_cut {x : Str} (h : asc x) (l u : Option Int) : asc (L2.cutS x l u) := fun c hc => by
  have hc : c ∈ ((tl x).drop _).take _ := hc
  exact h c (List.mem_of_mem_drop (List.mem_of_mem_take hc))
theorem joinL_mem {S : List Nat} {c : Nat} : ∀ {ps : List (List Nat)}, c ∈ joinL S ps → c ∈ S ∨ ∃ p ∈ ps, c ∈ p
  | [], h => by simp [joinL] at h
  | [p], h => .inr ⟨p, by simp, by simpa [joinL] using h⟩
  | p :: q :: r, h => by
    have h : c ∈ p ++ (S ++ joinL S (q :: r)) := h
    rcases List.mem_append.mp h with h | h
    · exact .inr ⟨p, by simp, h⟩
    rcases List.mem_append.mp h with h | h
    · exact .inl h
    · rcases joinL_mem h with h | ⟨z, hz, h⟩
      · exact .inl h
      · exact .inr ⟨z, List.mem_cons_of_mem _ hz, h⟩
theorem asc_join {y : Str} {ps : List Str} (hy : asc y) (h : ∀ p ∈ ps, asc p) : asc (Txt.join y ps) := fun c hc => by
  rw [join_eq, tl_join] at hc
  rcases joinL_mem hc with hc | ⟨q, hq, hc⟩
  · exact hy c hc
  · obtain ⟨p, hp, rfl⟩ := List.mem_map.mp hq
    exact h p hp c hc
/-! ### a text cut at one sign -/
theorem spl1_join (s : Nat) : ∀ (l acc : List Nat), s ∉ acc → joinL [s] (spl [s] 0 acc l) = acc ++ l ∧ spl [s] 0 acc l ≠ [] ∧ (∀ p ∈ spl [s] 0 acc l, s ∉ p) ∧ (spl [s] 0 acc l).length ≤ l.length + 1
  | [], acc, h => by simp [spl, joinL, h]
  | c :: l, acc, h => by
    by_cases hc : c = s
    · subst hc
      have hp : pre [c] (c :: l) = true := by simp [pre]
      rw [spl_hit hp]
      obtain ⟨h1, h2, h3, h4⟩ := spl1_join c l [] (by simp)
      refine ⟨?_, by simp, fun p hp => ?_, ?_⟩
      · show joinL [c] (acc :: spl [c] 0 [] l) = acc ++ c :: l
        generalize hs : spl [c] 0 [] l = ps at h1 h2
        cases ps with
        | nil => exact absurd rfl h2
        | cons p ps =>
          show acc ++ ([c] ++ joinL [c] (p :: ps)) = _
          rw [h1]; simp
      · rcases List.mem_cons.mp hp with rfl | hp
        · exact h
        · exact h3 p hp
      · show (spl [c] 0 [] l).length + 1 ≤ _
        simp only [List.length_cons]; omega
    · have hp : pre [s] (c :: l) = false := pre_of_head [] l hc
      rw [spl_miss hp]
      obtain ⟨h1, h2, h3, h4⟩ := spl1_join s l (acc ++ [c]) (by simp [h, Ne.symm hc])
      refine ⟨by rw [h1]; simp, h2, h3, ?_⟩
      simp only [List.length_cons]; omega
theorem split_ne {x y : Str} {s : Nat} (hy : tl y = [s]) (hk : y.cps.all (· < 256) = true) : (Txt.split x y).map tl = spl [s] 0 [] (tl x) := by
  rw [split_spl x y (by rw [hy]; simp) (kind_ok hk), hy]
theorem join_split {x y : Str} {s : Nat} (hy : tl y = [s]) (hk : y.cps.all (· < 256) = true) : Txt.join y (Txt.split x y) = x := by
  refine ext_tl ?_
  rw [join_eq, tl_join, split_ne hy hk, hy]
  have := (spl1_join s (tl x) [] (by simp)).1
  simpa using this
theorem split_facts {x y : Str} {s : Nat} (hy : tl y = [s]) (hk : y.cps.all (· < 256) = true) : Txt.split x y ≠ [] ∧ (∀ p ∈ Txt.split x y, s ∉ tl p) ∧ (Txt.split x y).length ≤ x.length + 1 := by
  obtain ⟨h1, h2, h3, h4⟩ := spl1_join s (tl x) [] (by simp)
  have e := split_ne (x := x) hy hk
  refine ⟨fun z => h2 (by rw [← e, z]; rfl), fun p hp => h3 _ (by rw [← e]; exact List.mem_map.mpr ⟨p, hp, rfl⟩), ?_⟩
  rw [len_tl, ← List.length_map (f := tl), e]
  exact h4
theorem part_le {s : Nat} : ∀ {ps : List (List Nat)} {p : List Nat}, p ∈ ps → p.length ≤ (joinL [s] ps).length
  | [q], p, h => by rw [List.mem_singleton.mp h]; simp [joinL]
  | q :: r :: ps, p, h => by
    show p.length ≤ (q ++ ([s] ++ joinL [s] (r :: ps))).length
    rcases List.mem_cons.mp h with rfl | h
    · simp
    · have := part_le (s := s) h
      simp only [List.length_append]; omega
theorem split_part {x y : Str} {s : Nat} (hy : tl y = [s]) (hk : y.cps.all (· < 256) = true) {p : Str} (hp : p ∈ Txt.split x y) : p.length ≤ x.length ∧ (asc x → asc p) := by
  obtain ⟨h1, h2, h3, h4⟩ := spl1_join s (tl x) [] (by simp)
  have hm : tl p ∈ spl [s] 0 [] (tl x) := by rw [← split_ne hy hk]; exact List.mem_map.mpr ⟨p, hp, rfl⟩
  constructor
  · rw [len_tl, len_tl]
    have := part_le (s := s) hm
    rw [h1] at this
    simpa using this
  · intro ha c hc
    refine ha c ?_
    have key : ∀ {ps : List (List Nat)} {q : List Nat}, q ∈ ps → c ∈ q → c ∈ joinL [s] ps := by
      intro ps
      induction ps with
      | nil => intro q hq; simp at hq
      | cons a ps ih =>
        intro q hq hcq
        cases ps with
        | nil => rw [List.mem_singleton.mp hq] at hcq; simpa [joinL] using hcq
        | cons b ps =>
          show c ∈ a ++ ([s] ++ joinL [s] (b :: ps))
          rcases List.mem_cons.mp hq with rfl | hq
          · exact List.mem_append_left _ hcq
          · exact List.mem_append_right _ (List.mem_append_right _ (ih hq hcq))
    have := key hm hc
    rw [h1] at this
    simpa using this
theorem join_len {y : Str} : ∀ {ps : List Str} {n : Nat}, (∀ p ∈ ps, p.length ≤ n) → (ps.map (·.length)).sum + ps.length * y.length ≤ ps.length * (n + y.length)
  | [], n, _ => by simp
  | p :: ps, n, h => by
    have h1 := h p (by simp)
    have h2 := join_len (y := y) (ps := ps) fun q hq => h q (by simp [hq])
    simp only [List.map_cons, List.sum_cons, List.length_cons, Nat.succ_mul]
    omega
theorem join_le {y : Str} {ps : List Str} : (Txt.join y ps).length ≤ (ps.map (·.length)).sum + ps.length * y.length := by
  rw [join_eq]; exact StrLaws.join_length_le y ps
end NW
end
section
/- Signs and notices as texts: what the program writes. -/
namespace NW
open PySem TL
structure HTxt (T : Nat → Option FD) : Prop extends HNotS T where
  h60 : Is T 60 f_need_notice
  h122 : Is T 122 f_sign_word
  h123 : Is T 123 f_text_of
  h124 : Is T 124 f_notice_text
  h125 : Is T 125 f_read_sign
  h126 : Is T 126 f_read_notice
def dg (n : Fin 3) : Str := Str.ofString (toString (n3 n))
def Cl.ps : Cl → List Str
  | .pr w s => [w.s, mk1 s, mk2 s]
  | .alln s => ["allnot", mk1 s, mk2 s]
  | .has n m => ["has", dg n, m.s]
def Sg.w : Sg → Str
  | .cl c => Txt.join "-" c.ps
  | .jt j => j.s
  | .nt => "not"
  | .lp => "("
  | .rp => ")"
theorem Cl.fin {P : Cl → Prop} (h1 : ∀ w s, P (.pr w s)) (h2 : ∀ s, P (.alln s)) (h3 : ∀ n m, P (.has n m)) : ∀ c, P c
  | .pr w s => h1 w s
  | .alln s => h2 s
  | .has n m => h3 n m
def Sg.all : List Sg := [.jt .and, .jt .or, .jt .unless, .jt .onlyif, .nt, .lp, .rp] ++
  ([false, true].flatMap fun s => [.cl (.pr .all s), .cl (.pr .some s), .cl (.pr .no s), .cl (.alln s)]) ++
  ([0, 1, 2].flatMap fun n => [.cl (.has n .a), .cl (.has n .b), .cl (.has n .both)])
theorem Sg.mem_all : ∀ g : Sg, g ∈ Sg.all := by
  intro g
  cases g with
  | cl c =>
    cases c with
    | pr w s => cases w <;> cases s <;> decide +kernel
    | alln s => cases s <;> decide +kernel
    | has n m => revert n; cases m <;> decide +kernel
  | jt j => cases j <;> decide +kernel
  | nt => decide +kernel
  | lp => decide +kernel
  | rp => decide +kernel
theorem Sg.by_all {P : Sg → Prop} [DecidablePred P] (h : Sg.all.all (fun g => decide (P g)) = true) (g : Sg) : P g :=
  of_decide_eq_true (List.all_eq_true.mp h g g.mem_all)
theorem Sg.w_facts (g : Sg) : ascB g.w = true ∧ g.w.length ≤ 20 ∧ 32 ∉ tl g.w :=
  Sg.by_all (P := fun g => ascB g.w = true ∧ g.w.length ≤ 20 ∧ 32 ∉ tl g.w) (by decide +kernel) g
/-- str of a sign's part -/
def strP : D → D
  | .int i => .str (Str.ofString (toString i))
  | d => d
section
variable {T : Nat → Option FD} {S : Store}
theorem Cl.strP (c : Cl) : ∃ a b e : D, c.d = .tup [a, b, e] ∧ [a, b, e].map NW.strP = c.ps.map .str ∧ (∀ d ∈ [a, b, e], callB .str S [d] = some (NW.strP d)) := by
  cases c with
  | pr w s => exact ⟨_, _, _, rfl, rfl, by simp [NW.strP]⟩
  | alln s => exact ⟨_, _, _, rfl, rfl, by simp [NW.strP]⟩
  | has n m =>
    refine ⟨_, _, _, rfl, rfl, ?_⟩
    have hl : (n3 n).natAbs.log2 < 1920 := by
      revert n; decide
    simp [NW.strP, hl]
theorem word_ok (h : HTxt T) {k : Nat} (g : Sg) : callN T (k + 1) 122 [g.d] S = .ok (.str g.w) S := by
  refine EP_pure (EP_call h.h122 rfl rfl ?_)
  cases g with
  | cl c =>
    obtain ⟨a, b, e, e1, e2, e3⟩ := c.strP (S := S)
    have hc : ∀ G : Env, 1 < G.length → compGo (.name 1) none (evE (callN T k) (.cb .str (.cons (.var 1) .nil))) ⟨[a, b, e], none⟩ G [a, b, e] [] S = .ok (.lst ([a, b, e].map NW.strP)) S := fun G hG =>
      compGo_map NW.strP (by simp [lineN]) fun x hx => ⟨_, rfl, EP_pure (by
        have := e3 x hx
        simp [setV, hG, this])⟩
    have hd : (Sg.cl c).d = .tup [a, b, e] := e1
    have hw : (Sg.cl c).w = Txt.join "-" c.ps := rfl
    rw [hd, hw]
    have hsum : (c.ps.map (·.length)).sum + c.ps.length * ("-" : Str).length ≤ 16777216 := by
      have : ∀ c : Cl, (c.ps.map (·.length)).sum + c.ps.length * ("-" : Str).length ≤ 100 := by
        intro c
        cases c with
        | pr w s => cases w <;> cases s <;> decide +kernel
        | alln s => cases s <;> decide +kernel
        | has n m => revert n; cases m <;> decide +kernel
      have := this c
      omega
    simp only [f_sign_word, b_sign_word]
    simp [-Bool.exists_bool, -List.map_cons, -List.map_nil, wipeE, hc, e2, hsum]
  | jt j => simp [-Bool.exists_bool, f_sign_word, b_sign_word, Sg.d, Sg.w]
  | nt => simp [-Bool.exists_bool, f_sign_word, b_sign_word, Sg.d, Sg.w]
  | lp => simp [-Bool.exists_bool, f_sign_word, b_sign_word, Sg.d, Sg.w]
  | rp => simp [-Bool.exists_bool, f_sign_word, b_sign_word, Sg.d, Sg.w]
/-- a row of signs as a text -/
def rowT (row : List Sg) : Str := Txt.join " " (row.map Sg.w)
theorem row_sum (row : List Sg) : ((row.map Sg.w).map (·.length)).sum + (row.map Sg.w).length * (" " : Str).length ≤ 21 * row.length := by
  induction row with
  | nil => simp
  | cons g row ih =>
    have := g.w_facts.2.1
    simp only [List.map_cons, List.sum_cons, List.length_cons, Nat.succ_mul] at ih ⊢
    have e : (" " : Str).length = 1 := by decide +kernel
    rw [e] at ih ⊢
    omega
theorem text_ok (h : HTxt T) {k : Nat} {row : List Sg} (hl : row.length ≤ 1000) : callN T (k + 2) 123 [.tup (row.map Sg.d)] S = .ok (.str (rowT row)) S := by
  refine EP_pure (EP_call h.h123 rfl rfl ?_)
  have hc : ∀ G : Env, 1 < G.length → compGo (.name 1) none (evE (callN T (k + 1)) (.call 122 (.cons (.var 1) .nil))) ⟨row.map Sg.d, none⟩ G (row.map Sg.d) [] S = .ok (.lst ((row.map Sg.w).map .str)) S := fun G hG => by
    have key : ∀ (r : List Sg) (acc : List D), acc.length + r.length ≤ 1000 → compGo (.name 1) none (evE (callN T (k + 1)) (.call 122 (.cons (.var 1) .nil))) ⟨row.map Sg.d, none⟩ G (r.map Sg.d) acc S = .ok (.lst (acc ++ (r.map Sg.w).map .str)) S := by
      intro r
      induction r with
      | nil => intro acc _; simp [compGo, Src.stays]
      | cons g r ih =>
        intro acc ha
        have hlt : acc.length < lineN := by simp at ha; simp [lineN]; omega
        have he : evE (callN T (k + 1)) (.call 122 (.cons (.var 1) .nil)) (setV G 1 g.d) S = .ok (.str g.w) S := EP_pure (by simp [setV, hG, word_ok h g])
        simp only [List.map_cons, compGo, Src.stays, hlt, decide_true, Bool.and_self, if_true, setTg, compTurn, he, noEx]
        rw [ih _ (by simp at ha ⊢; omega)]
        simp
    simpa using key row [] (by simpa using hl)
  have hs := row_sum row
  have hs' : ((row.map Sg.w).map (·.length)).sum + (row.map Sg.w).length * (" " : Str).length ≤ 16777216 := by omega
  simp only [f_text_of, b_text_of]
  simp [-Bool.exists_bool, -List.map_map, -List.length_map, wipeE, hc, hs', rowT]
theorem need_ok (h : HTxt T) {k : Nat} {v : D} (hv : v.ok = true) (hf : v.fit lineN = true) (hm : mNotice v = true) : callN T (k + 36) 60 [v] S = .ok .non S := by
  refine EP_pure (EP_call h.h60 rfl rfl ?_)
  simp [-Bool.exists_bool, f_need_notice, b_need_notice, has_eq h.toHNotS hv hf, hm]
theorem notice_text_ok (h : HTxt T) {k : Nat} {row : List Sg} (hl : row.length ≤ 1000) (hv : (D.tup (row.map Sg.d)).ok = true) (hf : (D.tup (row.map Sg.d)).fit lineN = true) (hm : mNotice (.tup (row.map Sg.d)) = true) :
    callN T (k + 37) 124 [.tup (row.map Sg.d)] S = .ok (.str (rowT row)) S := by
  refine EP_pure (EP_call h.h124 rfl rfl ?_)
  simp [-Bool.exists_bool, f_notice_text, b_notice_text, need_ok h hv hf hm, text_ok (k := k + 34) h hl]
end
end NW
end
section
/- What the program reads of a word, of a text. -/
namespace NW
open PySem TL
theorem dash : tl ("-" : Str) = [45] ∧ ("-" : Str).cps.all (· < 256) = true ∧ (("-" : Str).length == 0) = false := by decide +kernel
theorem blank : tl (" " : Str) = [32] ∧ (" " : Str).cps.all (· < 256) = true ∧ ((" " : Str).length == 0) = false := by decide +kernel
def cv (p : Str) : D := if p = "1" then .int 1 else if p = "2" then .int 2 else if p = "3" then .int 3 else .str p
def RS (x : Str) : D := if (Txt.split x "-").length = 1 then (if mSign (.str x) = true then .str x else .non) else (if mSign (.tup ((Txt.split x "-").map cv)) = true then .tup ((Txt.split x "-").map cv) else .non)
theorem cv_ok {p : Str} (h : asc p) : (cv p).ok = true := by
  unfold cv
  split
  · rfl
  split
  · rfl
  split
  · rfl
  · simp only [D.ok]; exact asc_ok h
theorem cv_fit {p : Str} {n : Nat} : (cv p).fit n = true := by
  unfold cv
  split
  · rfl
  split
  · rfl
  split
  · rfl
  · rfl
section
variable {T : Nat → Option FD} {S : Store}
theorem figs {p : Str} (h : asc p) : cmpOp .In S (.str p) (.tup [.str "1", .str "2", .str "3"]) = some (([("1" : Str), "2", "3"]).any fun w => w == p) :=
  in_strs (ws := ["1", "2", "3"]) (by decide +kernel) (asc_ok h)
theorem sign_ok (h : HTxt T) {k : Nat} {x : Str} (ha : asc x) (hl : x.length ≤ 1000) : callN T (k + 6) 125 [.str x] S = .ok (RS x) S := by
  refine EP_pure (EP_call h.h125 rfl rfl ?_)
  obtain ⟨s1, s2, s3⟩ := split_facts (x := x) dash.1 dash.2.1
  have hx : (D.str x).ok = true := by simp only [D.ok]; exact asc_ok ha
  have e1 := sign_eq (k := k + 1) (S := S) h.toHSgn hx fun ds e => by cases e
  have hall : ∀ p ∈ Txt.split x "-", asc p := fun p hp => (split_part dash.1 dash.2.1 hp).2 ha
  have hxl : x.length + 2 ≤ lineN := by simp [lineN]; omega
  have hok : (D.tup ((Txt.split x "-").map cv)).ok = true := by
    rw [ok_tup, okL_all, List.all_map, List.all_eq_true]
    exact fun p hp => cv_ok (hall p hp)
  have e2 := sign_eq (k := k + 1) (S := S) h.toHSgn hok fun ds e => by cases e; simp only [List.length_map, lineN]; omega
  have hd := dash.2.2
  unfold RS
  generalize hps : Txt.split x "-" = ps at *
  have hc : ∀ G : Env, 3 < G.length → compGo (.name 3) none (evE (callN T (k + 5)) (.ite (.cmp .In (.var 3) (.cst "FIGURES" (.tup [.str "1", .str "2", .str "3"]))) (.cb .int (.cons (.var 3) (.nil))) (.var 3))) ⟨ps.map .str, none⟩ G (ps.map .str) [] S = .ok (.lst (ps.map cv)) S := fun G hG => by
    have := compGo_map (tg := .name 3) (elt := evE (callN T (k + 5)) (.ite (.cmp .In (.var 3) (.cst "FIGURES" (.tup [.str "1", .str "2", .str "3"]))) (.cb .int (.cons (.var 3) (.nil))) (.var 3))) (G := G) (S := S) (xs := ps.map .str) (fun d => match d with | .str p => cv p | d => d) (by simp only [List.length_map, lineN]; omega) fun d hd => by
      obtain ⟨p, hp, rfl⟩ := List.mem_map.mp hd
      refine ⟨_, rfl, EP_pure ?_⟩
      have hf := figs (S := S) (hall p hp)
      by_cases h1 : p = "1"
      · subst h1
        have i1 : callB .int S [.str "1"] = some (.int 1) := by rw [int_str, if_pos (by decide +kernel), show PySem.intText? ("1" : Str) = some 1 by decide +kernel]; rfl
        simp [-Bool.exists_bool, -int_str, setV, hG, hf, i1, cv]
      by_cases h2 : p = "2"
      · subst h2
        have i1 : callB .int S [.str "2"] = some (.int 2) := by rw [int_str, if_pos (by decide +kernel), show PySem.intText? ("2" : Str) = some 2 by decide +kernel]; rfl
        simp [-Bool.exists_bool, -int_str, setV, hG, hf, i1, cv, h1]
      by_cases h3 : p = "3"
      · subst h3
        have i1 : callB .int S [.str "3"] = some (.int 3) := by rw [int_str, if_pos (by decide +kernel), show PySem.intText? ("3" : Str) = some 3 by decide +kernel]; rfl
        simp [-Bool.exists_bool, -int_str, setV, hG, hf, i1, cv, h1, h2]
      · have hn : ([("1" : Str), "2", "3"].any fun w => w == p) = false := by simp [Ne.symm h1, Ne.symm h2, Ne.symm h3]
        rw [hn] at hf
        simp [-Bool.exists_bool, setV, hG, hf, cv, h1, h2, h3]
    rw [this]
    simp [Function.comp_def]
  by_cases h1 : ps.length = 1
  · have h1' : ((ps.length : Int) == 1) = true := by rw [beq_iff_eq]; omega
    by_cases hm : mSign (.str x) = true
    · simp [-Bool.exists_bool, f_read_sign, b_read_sign, hps, hd, hxl, setV, h1', h1, e1, hm]
    · simp [-Bool.exists_bool, f_read_sign, b_read_sign, hps, hd, hxl, setV, h1', h1, e1, hm]
  · have h1' : ((ps.length : Int) == 1) = false := by rw [beq_eq_false_iff_ne]; omega
    by_cases hm : mSign (.tup (ps.map cv)) = true
    · simp [-Bool.exists_bool, f_read_sign, b_read_sign, hps, hd, hxl, setV, h1', h1, wipeE, hc, e2, hm]
    · simp [-Bool.exists_bool, f_read_sign, b_read_sign, hps, hd, hxl, setV, h1', h1, wipeE, hc, e2, hm]
/-- what is read of words: the number of the first that is none, or all signs -/
def rd : List Str → Nat → List D → Sum Nat (List D)
  | [], _, acc => .inr acc
  | w :: ws, i, acc => if isNone (RS w) = true then .inl (i + 1) else rd ws (i + 1) (acc ++ [RS w])
def TR (x : Str) : D := match rd (Txt.split x " ") 0 [] with
  | .inl i => .int (i : Nat)
  | .inr ds => if mNotice (.tup ds) = true then .tup ds else .int ((ds.length : Nat) + 1)
theorem RS_ok {x : Str} (ha : asc x) (hl : x.length ≤ 1000) : (RS x).ok = true ∧ (RS x).fit 1001 = true := by
  obtain ⟨s1, s2, s3⟩ := split_facts (x := x) dash.1 dash.2.1
  have hall : ∀ p ∈ Txt.split x "-", asc p := fun p hp => (split_part dash.1 dash.2.1 hp).2 ha
  have hx : (D.str x).ok = true := by simp only [D.ok]; exact asc_ok ha
  have hok : (D.tup ((Txt.split x "-").map cv)).ok = true := by
    rw [ok_tup, okL_all, List.all_map, List.all_eq_true]
    exact fun p hp => cv_ok (hall p hp)
  have hfit : (D.tup ((Txt.split x "-").map cv)).fit 1001 = true := by
    simp only [D.fit, Bool.and_eq_true, decide_eq_true_eq, List.length_map]
    exact ⟨by omega, fitL_map _ _ fun _ _ => cv_fit⟩
  unfold RS
  split
  · split
    · exact ⟨hx, rfl⟩
    · exact ⟨rfl, rfl⟩
  · split
    · exact ⟨hok, hfit⟩
    · exact ⟨rfl, rfl⟩
theorem rd_facts : ∀ {ws : List Str} {i : Nat} {acc : List D}, (∀ w ∈ ws, asc w ∧ w.length ≤ 1000) → (∀ d ∈ acc, d.ok = true ∧ d.fit 1001 = true) → ∀ ds, rd ws i acc = .inr ds → (∀ d ∈ ds, d.ok = true ∧ d.fit 1001 = true) ∧ ds.length = acc.length + ws.length
  | [], i, acc, _, ha, ds, e => by simp only [rd] at e; cases e; exact ⟨ha, rfl⟩
  | w :: ws, i, acc, hw, ha, ds, e => by
    simp only [rd] at e
    split at e
    · cases e
    · obtain ⟨h1, h2⟩ := rd_facts (fun v hv => hw v (by simp [hv])) (fun d hd => by
        rcases List.mem_append.mp hd with hd | hd
        · exact ha d hd
        · rw [List.mem_singleton.mp hd]; exact RS_ok (hw w (by simp)).1 (hw w (by simp)).2) ds e
      refine ⟨h1, ?_⟩
      simp at h2 ⊢; omega
def itemsE (i : Nat) (ws : List Str) : List D := ((ws.map D.str).zipIdx i).map fun p => .tup [.int (p.2 : Nat), p.1]
theorem itemsE_cons {i : Nat} {w : Str} {ws : List Str} : itemsE i (w :: ws) = .tup [.int (i : Nat), .str w] :: itemsE (i + 1) ws := rfl
theorem words_good {x : Str} (ha : asc x) (hl : x.length ≤ 1000) : (∀ w ∈ Txt.split x " ", asc w ∧ w.length ≤ 1000) ∧ (Txt.split x " ").length ≤ 1001 := by
  obtain ⟨s1, s2, s3⟩ := split_facts (x := x) blank.1 blank.2.1
  refine ⟨fun w hw => ?_, by omega⟩
  obtain ⟨h1, h2⟩ := split_part blank.1 blank.2.1 hw
  exact ⟨h2 ha, by omega⟩
/-- what a reader of texts answers -/
def ansR (d : D) (S : Store) : R D := match d with
  | .tup ds => .ok (.tup ds) S
  | d => .exc ⟨12, [("word", d)]⟩ S
theorem read_ok (h : HTxt T) {k : Nat} {x : Str} (ha : asc x) (hl : x.length ≤ 1000) : callN T (k + 36) 126 [.str x] S = ansR (TR x) S := by
  obtain ⟨hw, hn⟩ := words_good ha hl
  have hd := blank.2.2
  have hxl : x.length + 2 ≤ lineN := by simp [lineN]; omega
  have key : EPX (callN T (k + 36) 126 [.str x] S) (fun d S' => S' = S ∧ ∃ ds, d = .tup ds ∧ TR x = .tup ds) (fun e S' => S' = S ∧ ∃ n : Int, TR x = .int n ∧ e = ⟨12, [("word", .int n)]⟩) := by
    refine EP_call h.h126 rfl rfl ?_
    unfold f_read_notice b_read_notice
    simp only [SP_cons (s := .ife _ _ _)]
    simp [-Bool.exists_bool, -SP_cons, -SP_ife]
    refine SP_ife.mpr ?_
    simp [-Bool.exists_bool, -SP_cons]
    refine SP_cons.mpr (SP_set.mpr ?_)
    simp [-SP_cons, lineN, setV]
    refine SP_cons.mpr (SP_for.mpr ?_)
    simp [-SP_cons, hd, hxl]
    show SPX (forGo _ _ ⟨itemsE 0 (Txt.split x " "), none⟩ (itemsE 0 (Txt.split x " ")) _ S) _ _ _ _
    have hTR : TR x = (match rd (Txt.split x " ") 0 [] with
      | .inl i => .int (i : Nat)
      | .inr ds => if mNotice (.tup ds) = true then .tup ds else .int ((ds.length : Nat) + 1)) := rfl
    generalize Txt.split x " " = W at *
    refine SP_forGo (fun xs G S' => S' = S ∧ ∃ (ws : List Str) (i : Nat) (acc : List D) (a b c : Option D), xs = itemsE i ws ∧ rd ws i acc = rd W 0 [] ∧ i + ws.length ≤ 1001 ∧ acc.length = i ∧ G = [some (.str x), some (.tup acc), a, b, c] ∧ (∀ w ∈ ws, asc w ∧ w.length ≤ 1000) ∧ (∀ d ∈ acc, d.ok = true ∧ d.fit 1001 = true))
      (fun _ _ _ _ => rfl) ?_ ?_ _ _ _ ⟨rfl, W, 0, [], none, none, none, rfl, rfl, by omega, rfl, rfl, hw, fun d hd => by simp at hd⟩
    · rintro G S' ⟨rfl, ws, i, acc, a, b, c, e, hr, _, hi, rfl, _, hacc⟩
      have hws : ws = [] := by cases ws <;> first | rfl | cases e
      subst hws
      simp only [rd] at hr
      have hok : (D.tup acc).ok = true := by
        rw [ok_tup, okL_all, List.all_eq_true]
        exact fun d hd => (hacc d hd).1
      have hfit : (D.tup acc).fit lineN = true := by
        simp only [D.fit, Bool.and_eq_true, decide_eq_true_eq]
        refine ⟨by simp [lineN]; omega, ?_⟩
        rw [fitL_all, List.all_eq_true]
        exact fun d hd => fit_le (by simp [lineN]) _ (hacc d hd).2
      have e1 := has_eq (k := k) (S := S') h.toHNotS hok hfit
      rw [← hr] at hTR
      by_cases hm : mNotice (.tup acc) = true
      · rw [hm] at e1
        simp only [hm, if_true] at hTR
        simp [-Bool.exists_bool, e1, hTR]
      · rw [Bool.eq_false_iff.mpr hm] at e1
        dsimp only at hTR
        rw [if_neg hm] at hTR
        simp [-Bool.exists_bool, e1, hTR]
    · rintro y xs G S' ⟨rfl, ws, i, acc, a, b, c, e, hr, hi1, hi, rfl, hws, hacc⟩
      obtain ⟨w, ws, rfl⟩ : ∃ w l, ws = w :: l := by
        cases ws with
        | nil => cases e
        | cons w l => exact ⟨w, l, rfl⟩
      rw [itemsE_cons] at e
      cases e
      refine ⟨_, rfl, ?_⟩
      obtain ⟨w1, w2⟩ := hws w (by simp)
      have e1 := sign_ok (k := k + 29) (S := S') h w1 w2
      simp only [rd] at hr
      by_cases hno : isNone (RS w) = true
      · rw [if_pos hno] at hr
        rw [← hr] at hTR
        simp [-Bool.exists_bool, setV, setVs, e1, hno]
        exact hTR
      · rw [if_neg hno] at hr
        simp [-Bool.exists_bool, setV, setVs, e1, hno, lineN]
        refine ⟨_, ⟨by simp at hi1; omega, rfl⟩, ws, i + 1, rfl, acc ++ [RS w], hr, by simp at hi1; omega, by simp [hi], rfl, fun v hv => hws v (by simp [hv]), fun d hd => ?_⟩
        rcases List.mem_append.mp hd with hd | hd
        · exact hacc d hd
        · rw [List.mem_singleton.mp hd]; exact RS_ok w1 w2
  unfold ansR
  cases hr : callN T (k + 36) 126 [.str x] S with
  | bad => rw [hr] at key; cases key
  | ok d S' =>
    rw [hr] at key
    simp only [EP_ok] at key
    obtain ⟨rfl, ds, rfl, e⟩ := key
    rw [e]
  | exc e S' =>
    rw [hr] at key
    simp only [EP_exc] at key
    obtain ⟨rfl, n, e1, rfl⟩ := key
    rw [e1]
theorem read_none (h : HTxt T) {k : Nat} {v : D} (hv : v.ok = true) (hs : isStr v = false) : callN T (k + 1) 126 [v] S = .exc ⟨12, [("word", .int 0)]⟩ S := by
  refine EP_raise (EP_call h.h126 rfl rfl ?_)
  have := isi_str' (S := S) hv
  rw [hs] at this
  simp [-Bool.exists_bool, f_read_notice, b_read_notice, this]
end
end NW
end
section
/- The law's words are the program's: a word is a sign's, or none. -/
namespace NW
open PySem TL
/-- all signs, by their words -/
def KN : List (Str × D) := Sg.all.map fun g => (g.w, g.d)
theorem cv_str {p q : Str} (h : cv p = .str q) : p = q := by
  unfold cv at h
  split at h
  · cases h
  split at h
  · cases h
  split at h
  · cases h
  · cases h; rfl
theorem cv_int {p : Str} {i : Int} (h : cv p = .int i) : ∃ n : Fin 3, i = n3 n ∧ p = dg n := by
  unfold cv at h
  split at h
  · rename_i e; cases h; exact ⟨0, rfl, by rw [e]; decide +kernel⟩
  split at h
  · rename_i e; cases h; exact ⟨1, rfl, by rw [e]; decide +kernel⟩
  split at h
  · rename_i e; cases h; exact ⟨2, rfl, by rw [e]; decide +kernel⟩
  · cases h
/-- parts that make a clause are a clause's -/
theorem clause_ps {ps : List Str} (h : mClause (.tup (ps.map cv)) = true) : ∃ c : Cl, ps = c.ps := by
  unfold mClause at h
  simp only [Bool.or_eq_true] at h
  match ps, h with
  | [], h => simp [mPair, mMany] at h
  | [_], h => simp [mPair, mMany] at h
  | [_, _], h => simp [mPair, mMany] at h
  | _ :: _ :: _ :: _ :: _, h => simp [mPair, mMany] at h
  | [a, b, c], h =>
    simp only [List.map_cons, List.map_nil] at h
    rcases h with h | h
    · generalize ha : cv a = x at h
      generalize hb : cv b = y at h
      generalize hc : cv c = z at h
      cases x <;> first | (simp [mPair] at h; done) | skip
      cases y <;> first | (simp [mPair] at h; done) | skip
      cases z <;> first | (simp [mPair] at h; done) | skip
      rw [cv_str ha, cv_str hb, cv_str hc]
      simp [mPair, PAIR] at h
      obtain ⟨h1, h2⟩ := h
      rcases h1 with rfl | rfl | rfl | rfl <;> rcases h2 with ⟨rfl, rfl⟩ | ⟨rfl, rfl⟩
      · exact ⟨.pr .all false, rfl⟩
      · exact ⟨.pr .all true, rfl⟩
      · exact ⟨.pr .some false, rfl⟩
      · exact ⟨.pr .some true, rfl⟩
      · exact ⟨.pr .no false, rfl⟩
      · exact ⟨.pr .no true, rfl⟩
      · exact ⟨.alln false, rfl⟩
      · exact ⟨.alln true, rfl⟩
    · generalize ha : cv a = x at h
      generalize hb : cv b = y at h
      generalize hc : cv c = z at h
      cases x <;> first | (simp [mMany] at h; done) | skip
      cases z <;> first | (simp [mMany] at h; done) | skip
      cases y <;> first | (simp [mMany, mFrom] at h; done) | skip
      obtain ⟨n, rfl, rfl⟩ := cv_int hb
      rw [cv_str ha, cv_str hc]
      simp [mMany, mFrom] at h
      obtain ⟨h1, h2, h3⟩ := h
      subst h1
      rcases h3 with rfl | rfl | rfl
      · exact ⟨.has n .a, rfl⟩
      · exact ⟨.has n .b, rfl⟩
      · exact ⟨.has n .both, rfl⟩
/-- what is read of a word is a sign's, or nothing -/
theorem RS_sign (x : Str) : RS x = .non ∨ ∃ g : Sg, x = g.w ∧ RS x = g.d := by
  unfold RS
  by_cases h1 : (Txt.split x "-").length = 1
  · rw [if_pos h1]
    by_cases hm : mSign (.str x) = true
    · rw [if_pos hm]
      right
      have hm' : ([("and" : Str), "or", "unless", "onlyif"].any fun w => w == x) = true ∨ ([("not" : Str), "(", ")"].any fun w => w == x) = true := by
        simpa only [mSign, Bool.or_eq_true] using hm
      simp only [List.any_cons, List.any_nil, Bool.or_false, Bool.or_eq_true, beq_iff_eq] at hm'
      rcases hm' with (rfl | rfl | rfl | rfl) | (rfl | rfl | rfl)
      · exact ⟨.jt .and, rfl, rfl⟩
      · exact ⟨.jt .or, rfl, rfl⟩
      · exact ⟨.jt .unless, rfl, rfl⟩
      · exact ⟨.jt .onlyif, rfl, rfl⟩
      · exact ⟨.nt, rfl, rfl⟩
      · exact ⟨.lp, rfl, rfl⟩
      · exact ⟨.rp, rfl, rfl⟩
    · rw [if_neg hm]; exact .inl rfl
  · rw [if_neg h1]
    by_cases hm : mSign (.tup ((Txt.split x "-").map cv)) = true
    · rw [if_pos hm]
      right
      obtain ⟨c, hc⟩ := clause_ps (ps := Txt.split x "-") hm
      refine ⟨.cl c, ?_, ?_⟩
      · show x = Txt.join "-" c.ps
        rw [← hc, join_split dash.1 dash.2.1]
      · rw [hc]
        cases c with
        | pr w s => cases w <;> cases s <;> rfl
        | alln s => cases s <;> rfl
        | has n m =>
          show D.tup [cv "has", cv (dg n), cv m.s] = D.tup [.str "has", .int (n3 n), .str m.s]
          have e1 : cv "has" = .str "has" := rfl
          have e2 : cv m.s = .str m.s := by cases m <;> rfl
          have e3 : ∀ n : Fin 3, dg n = (if n = 0 then "1" else if n = 1 then "2" else "3") := by decide +kernel
          have e4 : cv (dg n) = .int (n3 n) := by
            rw [e3 n]
            have key : ∀ n : Fin 3, n = 0 ∨ n = 1 ∨ n = 2 := by decide
            rcases key n with rfl | rfl | rfl <;> rfl
          rw [e1, e2, e4]
    · rw [if_neg hm]; exact .inl rfl
/-- the values' own equality, for the kernel -/
def D.eqB (a b : D) : Bool := D.same a b
theorem RS_w (g : Sg) : RS g.w = g.d := by
  have h : Sg.all.all (fun g => D.same (RS g.w) g.d) = true := by decide +kernel
  exact D.same_eq _ _ (List.all_eq_true.mp h g g.mem_all)
theorem KN_w (g : Sg) : sfind KN g.w = some g.d := by
  have h : Sg.all.all (fun g => (match sfind KN g.w with | some d => D.same d g.d | none => false)) = true := by decide +kernel
  have := List.all_eq_true.mp h g g.mem_all
  revert this
  cases sfind KN g.w with
  | none => intro h; cases h
  | some d => intro h; rw [D.same_eq _ _ h]
theorem sfind_mem {kvs : List (Str × D)} {x : Str} {d : D} (h : sfind kvs x = some d) : (x, d) ∈ kvs := by
  unfold sfind at h
  obtain ⟨p, h1, rfl⟩ := Option.map_eq_some_iff.mp h
  have e := List.find?_some h1
  have e := of_decide_eq_true e
  subst e
  exact List.mem_of_find?_eq_some h1
theorem KN_some {x : Str} {d : D} (h : sfind KN x = some d) : ∃ g : Sg, x = g.w ∧ d = g.d := by
  obtain ⟨g, _, e⟩ := List.mem_map.mp (sfind_mem h)
  cases e
  exact ⟨g, rfl, rfl⟩
theorem Sg.d_non (g : Sg) : isNone g.d = false := by
  cases g with
  | cl c => cases c <;> rfl
  | _ => rfl
/-- the law's look-up is the program's reading -/
theorem RS_KN (x : Str) : RS x = (sfind KN x).getD .non ∧ (isNone (RS x) = !(sfind KN x).isSome) := by
  cases h : sfind KN x with
  | some d =>
    obtain ⟨g, rfl, rfl⟩ := KN_some h
    rw [RS_w]
    exact ⟨rfl, by rw [Sg.d_non]; rfl⟩
  | none =>
    rcases RS_sign x with e | ⟨g, rfl, _⟩
    · rw [e]; exact ⟨rfl, rfl⟩
    · rw [KN_w] at h; cases h
theorem KN_facts : KN.length = 24 ∧ KN.all (fun p => ascB p.1 && decide (p.1.length ≤ 20)) = true := by decide +kernel
end NW
end
section
/- The words of formulas against each other. -/
namespace NW
open PySem
section
variable {S : Store}
theorem eqs {x y : Str} {b : Bool} (h : (PyData.strOk x && (PyData.strOk y && ((x == y) == b))) = true) : cmpOp .Eq S (.str x) (.str y) = some b := by
  simp only [Bool.and_eq_true, beq_iff_eq] at h
  rw [cmp_eq]
  simp only [flat_str, eqOk_str h.1 h.2.1, if_true, eqv_str_str, h.2.2]
theorem depL {ws : List Str} : D.depthL (ws.map D.str) = 0 := by
  induction ws with
  | nil => simp only [List.map_nil, D.depthL]
  | cons w ws ih => simp only [List.map_cons, D.depthL, D.depth, ih, Nat.max_self]
theorem okS {ws : List Str} (h : ws.all PyData.strOk = true) : D.okL (ws.map D.str) = true := by
  rw [okL_all, List.all_map]
  exact h
theorem anyS {x : Str} {ws : List Str} : ((ws.map D.str).any fun z => D.eqv z (.str x)) = ws.any fun w => w == x := by
  rw [List.any_map]
  congr 1
theorem ins {x : Str} {ws : List Str} {b : Bool} (h : (PyData.strOk x && (ws.all PyData.strOk && ((ws.any fun w => w == x) == b))) = true) : cmpOp .In S (.str x) (.tup (ws.map D.str)) = some b ∧ cmpOp .In S (.str x) (.lst (ws.map D.str)) = some b := by
  simp only [Bool.and_eq_true, beq_iff_eq] at h
  have ho : inOk (.str x) (ws.map D.str) = true := by
    unfold inOk
    rw [okS h.2.1, depL]
    simp [D.ok, D.depth, h.1]
  rw [cmp_in dct_tup dks_tup, cmp_in dct_lst dks_lst]
  simp only [seq_tup, seq_lst, Option.bind_some, flat_str, ho, if_true, anyS, h.2.2, and_self]
@[simp] theorem eq_not_not : cmpOp .Eq S (.str "not") (.str "not") = some true := eqs (by decide +kernel)
@[simp] theorem eq_not_and : cmpOp .Eq S (.str "not") (.str "and") = some false := eqs (by decide +kernel)
@[simp] theorem eq_not_or : cmpOp .Eq S (.str "not") (.str "or") = some false := eqs (by decide +kernel)
@[simp] theorem eq_not_if : cmpOp .Eq S (.str "not") (.str "if") = some false := eqs (by decide +kernel)
@[simp] theorem eq_not_all : cmpOp .Eq S (.str "not") (.str "all") = some false := eqs (by decide +kernel)
@[simp] theorem eq_not_some : cmpOp .Eq S (.str "not") (.str "some") = some false := eqs (by decide +kernel)
@[simp] theorem eq_not_no : cmpOp .Eq S (.str "not") (.str "no") = some false := eqs (by decide +kernel)
@[simp] theorem eq_not_least : cmpOp .Eq S (.str "not") (.str "least") = some false := eqs (by decide +kernel)
@[simp] theorem eq_not_a : cmpOp .Eq S (.str "not") (.str "a") = some false := eqs (by decide +kernel)
@[simp] theorem eq_not_both : cmpOp .Eq S (.str "not") (.str "both") = some false := eqs (by decide +kernel)
@[simp] theorem in_not_t4 : cmpOp .In S (.str "not") (.tup [.str "and", .str "or", .str "if", .str "other"]) = some false := (ins (ws := ["and", "or", "if", "other"]) (by decide +kernel)).1
@[simp] theorem in_not_t2 : cmpOp .In S (.str "not") (.tup [.str "some", .str "no"]) = some false := (ins (ws := ["some", "no"]) (by decide +kernel)).1
@[simp] theorem in_not_t5 : cmpOp .In S (.str "not") (.tup [.str "not", .str "and", .str "or", .str "if", .str "other"]) = some true := (ins (ws := ["not", "and", "or", "if", "other"]) (by decide +kernel)).1
@[simp] theorem in_not_l5 : cmpOp .In S (.str "not") (.lst [.str "not", .str "and", .str "or", .str "if", .str "other"]) = some true := (ins (ws := ["not", "and", "or", "if", "other"]) (by decide +kernel)).2
@[simp] theorem in_not_l2 : cmpOp .In S (.str "not") (.lst [.str "some", .str "no"]) = some false := (ins (ws := ["some", "no"]) (by decide +kernel)).2
@[simp] theorem eq_and_not : cmpOp .Eq S (.str "and") (.str "not") = some false := eqs (by decide +kernel)
@[simp] theorem eq_and_and : cmpOp .Eq S (.str "and") (.str "and") = some true := eqs (by decide +kernel)
@[simp] theorem eq_and_or : cmpOp .Eq S (.str "and") (.str "or") = some false := eqs (by decide +kernel)
@[simp] theorem eq_and_if : cmpOp .Eq S (.str "and") (.str "if") = some false := eqs (by decide +kernel)
@[simp] theorem eq_and_all : cmpOp .Eq S (.str "and") (.str "all") = some false := eqs (by decide +kernel)
@[simp] theorem eq_and_some : cmpOp .Eq S (.str "and") (.str "some") = some false := eqs (by decide +kernel)
@[simp] theorem eq_and_no : cmpOp .Eq S (.str "and") (.str "no") = some false := eqs (by decide +kernel)
@[simp] theorem eq_and_least : cmpOp .Eq S (.str "and") (.str "least") = some false := eqs (by decide +kernel)
@[simp] theorem eq_and_a : cmpOp .Eq S (.str "and") (.str "a") = some false := eqs (by decide +kernel)
@[simp] theorem eq_and_both : cmpOp .Eq S (.str "and") (.str "both") = some false := eqs (by decide +kernel)
@[simp] theorem in_and_t4 : cmpOp .In S (.str "and") (.tup [.str "and", .str "or", .str "if", .str "other"]) = some true := (ins (ws := ["and", "or", "if", "other"]) (by decide +kernel)).1
@[simp] theorem in_and_t2 : cmpOp .In S (.str "and") (.tup [.str "some", .str "no"]) = some false := (ins (ws := ["some", "no"]) (by decide +kernel)).1
@[simp] theorem in_and_t5 : cmpOp .In S (.str "and") (.tup [.str "not", .str "and", .str "or", .str "if", .str "other"]) = some true := (ins (ws := ["not", "and", "or", "if", "other"]) (by decide +kernel)).1
@[simp] theorem in_and_l5 : cmpOp .In S (.str "and") (.lst [.str "not", .str "and", .str "or", .str "if", .str "other"]) = some true := (ins (ws := ["not", "and", "or", "if", "other"]) (by decide +kernel)).2
@[simp] theorem in_and_l2 : cmpOp .In S (.str "and") (.lst [.str "some", .str "no"]) = some false := (ins (ws := ["some", "no"]) (by decide +kernel)).2
@[simp] theorem eq_or_not : cmpOp .Eq S (.str "or") (.str "not") = some false := eqs (by decide +kernel)
@[simp] theorem eq_or_and : cmpOp .Eq S (.str "or") (.str "and") = some false := eqs (by decide +kernel)
@[simp] theorem eq_or_or : cmpOp .Eq S (.str "or") (.str "or") = some true := eqs (by decide +kernel)
@[simp] theorem eq_or_if : cmpOp .Eq S (.str "or") (.str "if") = some false := eqs (by decide +kernel)
@[simp] theorem eq_or_all : cmpOp .Eq S (.str "or") (.str "all") = some false := eqs (by decide +kernel)
@[simp] theorem eq_or_some : cmpOp .Eq S (.str "or") (.str "some") = some false := eqs (by decide +kernel)
@[simp] theorem eq_or_no : cmpOp .Eq S (.str "or") (.str "no") = some false := eqs (by decide +kernel)
@[simp] theorem eq_or_least : cmpOp .Eq S (.str "or") (.str "least") = some false := eqs (by decide +kernel)
@[simp] theorem eq_or_a : cmpOp .Eq S (.str "or") (.str "a") = some false := eqs (by decide +kernel)
@[simp] theorem eq_or_both : cmpOp .Eq S (.str "or") (.str "both") = some false := eqs (by decide +kernel)
@[simp] theorem in_or_t4 : cmpOp .In S (.str "or") (.tup [.str "and", .str "or", .str "if", .str "other"]) = some true := (ins (ws := ["and", "or", "if", "other"]) (by decide +kernel)).1
@[simp] theorem in_or_t2 : cmpOp .In S (.str "or") (.tup [.str "some", .str "no"]) = some false := (ins (ws := ["some", "no"]) (by decide +kernel)).1
@[simp] theorem in_or_t5 : cmpOp .In S (.str "or") (.tup [.str "not", .str "and", .str "or", .str "if", .str "other"]) = some true := (ins (ws := ["not", "and", "or", "if", "other"]) (by decide +kernel)).1
@[simp] theorem in_or_l5 : cmpOp .In S (.str "or") (.lst [.str "not", .str "and", .str "or", .str "if", .str "other"]) = some true := (ins (ws := ["not", "and", "or", "if", "other"]) (by decide +kernel)).2
@[simp] theorem in_or_l2 : cmpOp .In S (.str "or") (.lst [.str "some", .str "no"]) = some false := (ins (ws := ["some", "no"]) (by decide +kernel)).2
@[simp] theorem eq_if_not : cmpOp .Eq S (.str "if") (.str "not") = some false := eqs (by decide +kernel)
@[simp] theorem eq_if_and : cmpOp .Eq S (.str "if") (.str "and") = some false := eqs (by decide +kernel)
@[simp] theorem eq_if_or : cmpOp .Eq S (.str "if") (.str "or") = some false := eqs (by decide +kernel)
@[simp] theorem eq_if_if : cmpOp .Eq S (.str "if") (.str "if") = some true := eqs (by decide +kernel)
@[simp] theorem eq_if_all : cmpOp .Eq S (.str "if") (.str "all") = some false := eqs (by decide +kernel)
@[simp] theorem eq_if_some : cmpOp .Eq S (.str "if") (.str "some") = some false := eqs (by decide +kernel)
@[simp] theorem eq_if_no : cmpOp .Eq S (.str "if") (.str "no") = some false := eqs (by decide +kernel)
@[simp] theorem eq_if_least : cmpOp .Eq S (.str "if") (.str "least") = some false := eqs (by decide +kernel)
@[simp] theorem eq_if_a : cmpOp .Eq S (.str "if") (.str "a") = some false := eqs (by decide +kernel)
@[simp] theorem eq_if_both : cmpOp .Eq S (.str "if") (.str "both") = some false := eqs (by decide +kernel)
@[simp] theorem in_if_t4 : cmpOp .In S (.str "if") (.tup [.str "and", .str "or", .str "if", .str "other"]) = some true := (ins (ws := ["and", "or", "if", "other"]) (by decide +kernel)).1
@[simp] theorem in_if_t2 : cmpOp .In S (.str "if") (.tup [.str "some", .str "no"]) = some false := (ins (ws := ["some", "no"]) (by decide +kernel)).1
@[simp] theorem in_if_t5 : cmpOp .In S (.str "if") (.tup [.str "not", .str "and", .str "or", .str "if", .str "other"]) = some true := (ins (ws := ["not", "and", "or", "if", "other"]) (by decide +kernel)).1
@[simp] theorem in_if_l5 : cmpOp .In S (.str "if") (.lst [.str "not", .str "and", .str "or", .str "if", .str "other"]) = some true := (ins (ws := ["not", "and", "or", "if", "other"]) (by decide +kernel)).2
@[simp] theorem in_if_l2 : cmpOp .In S (.str "if") (.lst [.str "some", .str "no"]) = some false := (ins (ws := ["some", "no"]) (by decide +kernel)).2
@[simp] theorem eq_other_not : cmpOp .Eq S (.str "other") (.str "not") = some false := eqs (by decide +kernel)
@[simp] theorem eq_other_and : cmpOp .Eq S (.str "other") (.str "and") = some false := eqs (by decide +kernel)
@[simp] theorem eq_other_or : cmpOp .Eq S (.str "other") (.str "or") = some false := eqs (by decide +kernel)
@[simp] theorem eq_other_if : cmpOp .Eq S (.str "other") (.str "if") = some false := eqs (by decide +kernel)
@[simp] theorem eq_other_all : cmpOp .Eq S (.str "other") (.str "all") = some false := eqs (by decide +kernel)
@[simp] theorem eq_other_some : cmpOp .Eq S (.str "other") (.str "some") = some false := eqs (by decide +kernel)
@[simp] theorem eq_other_no : cmpOp .Eq S (.str "other") (.str "no") = some false := eqs (by decide +kernel)
@[simp] theorem eq_other_least : cmpOp .Eq S (.str "other") (.str "least") = some false := eqs (by decide +kernel)
@[simp] theorem eq_other_a : cmpOp .Eq S (.str "other") (.str "a") = some false := eqs (by decide +kernel)
@[simp] theorem eq_other_both : cmpOp .Eq S (.str "other") (.str "both") = some false := eqs (by decide +kernel)
@[simp] theorem in_other_t4 : cmpOp .In S (.str "other") (.tup [.str "and", .str "or", .str "if", .str "other"]) = some true := (ins (ws := ["and", "or", "if", "other"]) (by decide +kernel)).1
@[simp] theorem in_other_t2 : cmpOp .In S (.str "other") (.tup [.str "some", .str "no"]) = some false := (ins (ws := ["some", "no"]) (by decide +kernel)).1
@[simp] theorem in_other_t5 : cmpOp .In S (.str "other") (.tup [.str "not", .str "and", .str "or", .str "if", .str "other"]) = some true := (ins (ws := ["not", "and", "or", "if", "other"]) (by decide +kernel)).1
@[simp] theorem in_other_l5 : cmpOp .In S (.str "other") (.lst [.str "not", .str "and", .str "or", .str "if", .str "other"]) = some true := (ins (ws := ["not", "and", "or", "if", "other"]) (by decide +kernel)).2
@[simp] theorem in_other_l2 : cmpOp .In S (.str "other") (.lst [.str "some", .str "no"]) = some false := (ins (ws := ["some", "no"]) (by decide +kernel)).2
@[simp] theorem eq_all_not : cmpOp .Eq S (.str "all") (.str "not") = some false := eqs (by decide +kernel)
@[simp] theorem eq_all_and : cmpOp .Eq S (.str "all") (.str "and") = some false := eqs (by decide +kernel)
@[simp] theorem eq_all_or : cmpOp .Eq S (.str "all") (.str "or") = some false := eqs (by decide +kernel)
@[simp] theorem eq_all_if : cmpOp .Eq S (.str "all") (.str "if") = some false := eqs (by decide +kernel)
@[simp] theorem eq_all_all : cmpOp .Eq S (.str "all") (.str "all") = some true := eqs (by decide +kernel)
@[simp] theorem eq_all_some : cmpOp .Eq S (.str "all") (.str "some") = some false := eqs (by decide +kernel)
@[simp] theorem eq_all_no : cmpOp .Eq S (.str "all") (.str "no") = some false := eqs (by decide +kernel)
@[simp] theorem eq_all_least : cmpOp .Eq S (.str "all") (.str "least") = some false := eqs (by decide +kernel)
@[simp] theorem eq_all_a : cmpOp .Eq S (.str "all") (.str "a") = some false := eqs (by decide +kernel)
@[simp] theorem eq_all_both : cmpOp .Eq S (.str "all") (.str "both") = some false := eqs (by decide +kernel)
@[simp] theorem in_all_t4 : cmpOp .In S (.str "all") (.tup [.str "and", .str "or", .str "if", .str "other"]) = some false := (ins (ws := ["and", "or", "if", "other"]) (by decide +kernel)).1
@[simp] theorem in_all_t2 : cmpOp .In S (.str "all") (.tup [.str "some", .str "no"]) = some false := (ins (ws := ["some", "no"]) (by decide +kernel)).1
@[simp] theorem in_all_t5 : cmpOp .In S (.str "all") (.tup [.str "not", .str "and", .str "or", .str "if", .str "other"]) = some false := (ins (ws := ["not", "and", "or", "if", "other"]) (by decide +kernel)).1
@[simp] theorem in_all_l5 : cmpOp .In S (.str "all") (.lst [.str "not", .str "and", .str "or", .str "if", .str "other"]) = some false := (ins (ws := ["not", "and", "or", "if", "other"]) (by decide +kernel)).2
@[simp] theorem in_all_l2 : cmpOp .In S (.str "all") (.lst [.str "some", .str "no"]) = some false := (ins (ws := ["some", "no"]) (by decide +kernel)).2
@[simp] theorem eq_some_not : cmpOp .Eq S (.str "some") (.str "not") = some false := eqs (by decide +kernel)
@[simp] theorem eq_some_and : cmpOp .Eq S (.str "some") (.str "and") = some false := eqs (by decide +kernel)
@[simp] theorem eq_some_or : cmpOp .Eq S (.str "some") (.str "or") = some false := eqs (by decide +kernel)
@[simp] theorem eq_some_if : cmpOp .Eq S (.str "some") (.str "if") = some false := eqs (by decide +kernel)
@[simp] theorem eq_some_all : cmpOp .Eq S (.str "some") (.str "all") = some false := eqs (by decide +kernel)
@[simp] theorem eq_some_some : cmpOp .Eq S (.str "some") (.str "some") = some true := eqs (by decide +kernel)
@[simp] theorem eq_some_no : cmpOp .Eq S (.str "some") (.str "no") = some false := eqs (by decide +kernel)
@[simp] theorem eq_some_least : cmpOp .Eq S (.str "some") (.str "least") = some false := eqs (by decide +kernel)
@[simp] theorem eq_some_a : cmpOp .Eq S (.str "some") (.str "a") = some false := eqs (by decide +kernel)
@[simp] theorem eq_some_both : cmpOp .Eq S (.str "some") (.str "both") = some false := eqs (by decide +kernel)
@[simp] theorem in_some_t4 : cmpOp .In S (.str "some") (.tup [.str "and", .str "or", .str "if", .str "other"]) = some false := (ins (ws := ["and", "or", "if", "other"]) (by decide +kernel)).1
@[simp] theorem in_some_t2 : cmpOp .In S (.str "some") (.tup [.str "some", .str "no"]) = some true := (ins (ws := ["some", "no"]) (by decide +kernel)).1
@[simp] theorem in_some_t5 : cmpOp .In S (.str "some") (.tup [.str "not", .str "and", .str "or", .str "if", .str "other"]) = some false := (ins (ws := ["not", "and", "or", "if", "other"]) (by decide +kernel)).1
@[simp] theorem in_some_l5 : cmpOp .In S (.str "some") (.lst [.str "not", .str "and", .str "or", .str "if", .str "other"]) = some false := (ins (ws := ["not", "and", "or", "if", "other"]) (by decide +kernel)).2
@[simp] theorem in_some_l2 : cmpOp .In S (.str "some") (.lst [.str "some", .str "no"]) = some true := (ins (ws := ["some", "no"]) (by decide +kernel)).2
@[simp] theorem eq_no_not : cmpOp .Eq S (.str "no") (.str "not") = some false := eqs (by decide +kernel)
@[simp] theorem eq_no_and : cmpOp .Eq S (.str "no") (.str "and") = some false := eqs (by decide +kernel)
@[simp] theorem eq_no_or : cmpOp .Eq S (.str "no") (.str "or") = some false := eqs (by decide +kernel)
@[simp] theorem eq_no_if : cmpOp .Eq S (.str "no") (.str "if") = some false := eqs (by decide +kernel)
@[simp] theorem eq_no_all : cmpOp .Eq S (.str "no") (.str "all") = some false := eqs (by decide +kernel)
@[simp] theorem eq_no_some : cmpOp .Eq S (.str "no") (.str "some") = some false := eqs (by decide +kernel)
@[simp] theorem eq_no_no : cmpOp .Eq S (.str "no") (.str "no") = some true := eqs (by decide +kernel)
@[simp] theorem eq_no_least : cmpOp .Eq S (.str "no") (.str "least") = some false := eqs (by decide +kernel)
@[simp] theorem eq_no_a : cmpOp .Eq S (.str "no") (.str "a") = some false := eqs (by decide +kernel)
@[simp] theorem eq_no_both : cmpOp .Eq S (.str "no") (.str "both") = some false := eqs (by decide +kernel)
@[simp] theorem in_no_t4 : cmpOp .In S (.str "no") (.tup [.str "and", .str "or", .str "if", .str "other"]) = some false := (ins (ws := ["and", "or", "if", "other"]) (by decide +kernel)).1
@[simp] theorem in_no_t2 : cmpOp .In S (.str "no") (.tup [.str "some", .str "no"]) = some true := (ins (ws := ["some", "no"]) (by decide +kernel)).1
@[simp] theorem in_no_t5 : cmpOp .In S (.str "no") (.tup [.str "not", .str "and", .str "or", .str "if", .str "other"]) = some false := (ins (ws := ["not", "and", "or", "if", "other"]) (by decide +kernel)).1
@[simp] theorem in_no_l5 : cmpOp .In S (.str "no") (.lst [.str "not", .str "and", .str "or", .str "if", .str "other"]) = some false := (ins (ws := ["not", "and", "or", "if", "other"]) (by decide +kernel)).2
@[simp] theorem in_no_l2 : cmpOp .In S (.str "no") (.lst [.str "some", .str "no"]) = some true := (ins (ws := ["some", "no"]) (by decide +kernel)).2
@[simp] theorem eq_least_not : cmpOp .Eq S (.str "least") (.str "not") = some false := eqs (by decide +kernel)
@[simp] theorem eq_least_and : cmpOp .Eq S (.str "least") (.str "and") = some false := eqs (by decide +kernel)
@[simp] theorem eq_least_or : cmpOp .Eq S (.str "least") (.str "or") = some false := eqs (by decide +kernel)
@[simp] theorem eq_least_if : cmpOp .Eq S (.str "least") (.str "if") = some false := eqs (by decide +kernel)
@[simp] theorem eq_least_all : cmpOp .Eq S (.str "least") (.str "all") = some false := eqs (by decide +kernel)
@[simp] theorem eq_least_some : cmpOp .Eq S (.str "least") (.str "some") = some false := eqs (by decide +kernel)
@[simp] theorem eq_least_no : cmpOp .Eq S (.str "least") (.str "no") = some false := eqs (by decide +kernel)
@[simp] theorem eq_least_least : cmpOp .Eq S (.str "least") (.str "least") = some true := eqs (by decide +kernel)
@[simp] theorem eq_least_a : cmpOp .Eq S (.str "least") (.str "a") = some false := eqs (by decide +kernel)
@[simp] theorem eq_least_both : cmpOp .Eq S (.str "least") (.str "both") = some false := eqs (by decide +kernel)
@[simp] theorem in_least_t4 : cmpOp .In S (.str "least") (.tup [.str "and", .str "or", .str "if", .str "other"]) = some false := (ins (ws := ["and", "or", "if", "other"]) (by decide +kernel)).1
@[simp] theorem in_least_t2 : cmpOp .In S (.str "least") (.tup [.str "some", .str "no"]) = some false := (ins (ws := ["some", "no"]) (by decide +kernel)).1
@[simp] theorem in_least_t5 : cmpOp .In S (.str "least") (.tup [.str "not", .str "and", .str "or", .str "if", .str "other"]) = some false := (ins (ws := ["not", "and", "or", "if", "other"]) (by decide +kernel)).1
@[simp] theorem in_least_l5 : cmpOp .In S (.str "least") (.lst [.str "not", .str "and", .str "or", .str "if", .str "other"]) = some false := (ins (ws := ["not", "and", "or", "if", "other"]) (by decide +kernel)).2
@[simp] theorem in_least_l2 : cmpOp .In S (.str "least") (.lst [.str "some", .str "no"]) = some false := (ins (ws := ["some", "no"]) (by decide +kernel)).2
@[simp] theorem eq_just_not : cmpOp .Eq S (.str "just") (.str "not") = some false := eqs (by decide +kernel)
@[simp] theorem eq_just_and : cmpOp .Eq S (.str "just") (.str "and") = some false := eqs (by decide +kernel)
@[simp] theorem eq_just_or : cmpOp .Eq S (.str "just") (.str "or") = some false := eqs (by decide +kernel)
@[simp] theorem eq_just_if : cmpOp .Eq S (.str "just") (.str "if") = some false := eqs (by decide +kernel)
@[simp] theorem eq_just_all : cmpOp .Eq S (.str "just") (.str "all") = some false := eqs (by decide +kernel)
@[simp] theorem eq_just_some : cmpOp .Eq S (.str "just") (.str "some") = some false := eqs (by decide +kernel)
@[simp] theorem eq_just_no : cmpOp .Eq S (.str "just") (.str "no") = some false := eqs (by decide +kernel)
@[simp] theorem eq_just_least : cmpOp .Eq S (.str "just") (.str "least") = some false := eqs (by decide +kernel)
@[simp] theorem eq_just_a : cmpOp .Eq S (.str "just") (.str "a") = some false := eqs (by decide +kernel)
@[simp] theorem eq_just_both : cmpOp .Eq S (.str "just") (.str "both") = some false := eqs (by decide +kernel)
@[simp] theorem in_just_t4 : cmpOp .In S (.str "just") (.tup [.str "and", .str "or", .str "if", .str "other"]) = some false := (ins (ws := ["and", "or", "if", "other"]) (by decide +kernel)).1
@[simp] theorem in_just_t2 : cmpOp .In S (.str "just") (.tup [.str "some", .str "no"]) = some false := (ins (ws := ["some", "no"]) (by decide +kernel)).1
@[simp] theorem in_just_t5 : cmpOp .In S (.str "just") (.tup [.str "not", .str "and", .str "or", .str "if", .str "other"]) = some false := (ins (ws := ["not", "and", "or", "if", "other"]) (by decide +kernel)).1
@[simp] theorem in_just_l5 : cmpOp .In S (.str "just") (.lst [.str "not", .str "and", .str "or", .str "if", .str "other"]) = some false := (ins (ws := ["not", "and", "or", "if", "other"]) (by decide +kernel)).2
@[simp] theorem in_just_l2 : cmpOp .In S (.str "just") (.lst [.str "some", .str "no"]) = some false := (ins (ws := ["some", "no"]) (by decide +kernel)).2
@[simp] theorem eq_a_not : cmpOp .Eq S (.str "a") (.str "not") = some false := eqs (by decide +kernel)
@[simp] theorem eq_a_and : cmpOp .Eq S (.str "a") (.str "and") = some false := eqs (by decide +kernel)
@[simp] theorem eq_a_or : cmpOp .Eq S (.str "a") (.str "or") = some false := eqs (by decide +kernel)
@[simp] theorem eq_a_if : cmpOp .Eq S (.str "a") (.str "if") = some false := eqs (by decide +kernel)
@[simp] theorem eq_a_all : cmpOp .Eq S (.str "a") (.str "all") = some false := eqs (by decide +kernel)
@[simp] theorem eq_a_some : cmpOp .Eq S (.str "a") (.str "some") = some false := eqs (by decide +kernel)
@[simp] theorem eq_a_no : cmpOp .Eq S (.str "a") (.str "no") = some false := eqs (by decide +kernel)
@[simp] theorem eq_a_least : cmpOp .Eq S (.str "a") (.str "least") = some false := eqs (by decide +kernel)
@[simp] theorem eq_a_a : cmpOp .Eq S (.str "a") (.str "a") = some true := eqs (by decide +kernel)
@[simp] theorem eq_a_both : cmpOp .Eq S (.str "a") (.str "both") = some false := eqs (by decide +kernel)
@[simp] theorem in_a_t4 : cmpOp .In S (.str "a") (.tup [.str "and", .str "or", .str "if", .str "other"]) = some false := (ins (ws := ["and", "or", "if", "other"]) (by decide +kernel)).1
@[simp] theorem in_a_t2 : cmpOp .In S (.str "a") (.tup [.str "some", .str "no"]) = some false := (ins (ws := ["some", "no"]) (by decide +kernel)).1
@[simp] theorem in_a_t5 : cmpOp .In S (.str "a") (.tup [.str "not", .str "and", .str "or", .str "if", .str "other"]) = some false := (ins (ws := ["not", "and", "or", "if", "other"]) (by decide +kernel)).1
@[simp] theorem in_a_l5 : cmpOp .In S (.str "a") (.lst [.str "not", .str "and", .str "or", .str "if", .str "other"]) = some false := (ins (ws := ["not", "and", "or", "if", "other"]) (by decide +kernel)).2
@[simp] theorem in_a_l2 : cmpOp .In S (.str "a") (.lst [.str "some", .str "no"]) = some false := (ins (ws := ["some", "no"]) (by decide +kernel)).2
@[simp] theorem eq_b_not : cmpOp .Eq S (.str "b") (.str "not") = some false := eqs (by decide +kernel)
@[simp] theorem eq_b_and : cmpOp .Eq S (.str "b") (.str "and") = some false := eqs (by decide +kernel)
@[simp] theorem eq_b_or : cmpOp .Eq S (.str "b") (.str "or") = some false := eqs (by decide +kernel)
@[simp] theorem eq_b_if : cmpOp .Eq S (.str "b") (.str "if") = some false := eqs (by decide +kernel)
@[simp] theorem eq_b_all : cmpOp .Eq S (.str "b") (.str "all") = some false := eqs (by decide +kernel)
@[simp] theorem eq_b_some : cmpOp .Eq S (.str "b") (.str "some") = some false := eqs (by decide +kernel)
@[simp] theorem eq_b_no : cmpOp .Eq S (.str "b") (.str "no") = some false := eqs (by decide +kernel)
@[simp] theorem eq_b_least : cmpOp .Eq S (.str "b") (.str "least") = some false := eqs (by decide +kernel)
@[simp] theorem eq_b_a : cmpOp .Eq S (.str "b") (.str "a") = some false := eqs (by decide +kernel)
@[simp] theorem eq_b_both : cmpOp .Eq S (.str "b") (.str "both") = some false := eqs (by decide +kernel)
@[simp] theorem in_b_t4 : cmpOp .In S (.str "b") (.tup [.str "and", .str "or", .str "if", .str "other"]) = some false := (ins (ws := ["and", "or", "if", "other"]) (by decide +kernel)).1
@[simp] theorem in_b_t2 : cmpOp .In S (.str "b") (.tup [.str "some", .str "no"]) = some false := (ins (ws := ["some", "no"]) (by decide +kernel)).1
@[simp] theorem in_b_t5 : cmpOp .In S (.str "b") (.tup [.str "not", .str "and", .str "or", .str "if", .str "other"]) = some false := (ins (ws := ["not", "and", "or", "if", "other"]) (by decide +kernel)).1
@[simp] theorem in_b_l5 : cmpOp .In S (.str "b") (.lst [.str "not", .str "and", .str "or", .str "if", .str "other"]) = some false := (ins (ws := ["not", "and", "or", "if", "other"]) (by decide +kernel)).2
@[simp] theorem in_b_l2 : cmpOp .In S (.str "b") (.lst [.str "some", .str "no"]) = some false := (ins (ws := ["some", "no"]) (by decide +kernel)).2
@[simp] theorem eq_both_not : cmpOp .Eq S (.str "both") (.str "not") = some false := eqs (by decide +kernel)
@[simp] theorem eq_both_and : cmpOp .Eq S (.str "both") (.str "and") = some false := eqs (by decide +kernel)
@[simp] theorem eq_both_or : cmpOp .Eq S (.str "both") (.str "or") = some false := eqs (by decide +kernel)
@[simp] theorem eq_both_if : cmpOp .Eq S (.str "both") (.str "if") = some false := eqs (by decide +kernel)
@[simp] theorem eq_both_all : cmpOp .Eq S (.str "both") (.str "all") = some false := eqs (by decide +kernel)
@[simp] theorem eq_both_some : cmpOp .Eq S (.str "both") (.str "some") = some false := eqs (by decide +kernel)
@[simp] theorem eq_both_no : cmpOp .Eq S (.str "both") (.str "no") = some false := eqs (by decide +kernel)
@[simp] theorem eq_both_least : cmpOp .Eq S (.str "both") (.str "least") = some false := eqs (by decide +kernel)
@[simp] theorem eq_both_a : cmpOp .Eq S (.str "both") (.str "a") = some false := eqs (by decide +kernel)
@[simp] theorem eq_both_both : cmpOp .Eq S (.str "both") (.str "both") = some true := eqs (by decide +kernel)
@[simp] theorem in_both_t4 : cmpOp .In S (.str "both") (.tup [.str "and", .str "or", .str "if", .str "other"]) = some false := (ins (ws := ["and", "or", "if", "other"]) (by decide +kernel)).1
@[simp] theorem in_both_t2 : cmpOp .In S (.str "both") (.tup [.str "some", .str "no"]) = some false := (ins (ws := ["some", "no"]) (by decide +kernel)).1
@[simp] theorem in_both_t5 : cmpOp .In S (.str "both") (.tup [.str "not", .str "and", .str "or", .str "if", .str "other"]) = some false := (ins (ws := ["not", "and", "or", "if", "other"]) (by decide +kernel)).1
@[simp] theorem in_both_l5 : cmpOp .In S (.str "both") (.lst [.str "not", .str "and", .str "or", .str "if", .str "other"]) = some false := (ins (ws := ["not", "and", "or", "if", "other"]) (by decide +kernel)).2
@[simp] theorem in_both_l2 : cmpOp .In S (.str "both") (.lst [.str "some", .str "no"]) = some false := (ins (ws := ["some", "no"]) (by decide +kernel)).2
end
end NW
end
section
/- Houses; what a formula says in a house. -/
namespace NW
open PySem
/-- a house: how many there are of each of the four sorts -/
structure Ho where
  w : Nat
  x : Nat
  y : Nat
  z : Nat
  deriving DecidableEq
def Ho.d (h : Ho) : D := .tup [.int h.w, .int h.x, .int h.y, .int h.z]
def caseAt (p : Nat) : Ho := ⟨p / 125, p / 25 % 5, p / 5 % 5, p % 5⟩
def Mk.n (h : Ho) : Mk → Nat
  | .a => h.z + h.x
  | .b => h.z + h.y
  | .both => h.z
def Fm.on (h : Ho) : Fm → Bool
  | .pr .all s => decide ((if s then h.y else h.x) = 0)
  | .pr .some _ => decide (0 < h.z)
  | .pr .no _ => decide (h.z = 0)
  | .num j n m => if j then decide (m.n h = n.val + 1) else decide (n.val + 1 ≤ m.n h)
  | .not f => !f.on h
  | .bin .and f g => f.on h && g.on h
  | .bin .or f g => f.on h || g.on h
  | .bin .iff f g => g.on h || !f.on h
  | .bin .other f g => f.on h != g.on h
structure HMean (T : Nat → Option FD) : Prop where
  h32 : Is T 32 f_case_at
  h34 : Is T 34 f_with_mark
  h35 : Is T 35 f_holds_in
section
variable {T : Nat → Option FD} {S : Store}
@[simp] theorem atD_3 {d d1 d2 d3 : D} {ds : List D} : atD (d :: d1 :: d2 :: d3 :: ds) 3 = some d3 := by
  have := atD_nat (ds := d :: d1 :: d2 :: d3 :: ds) (k := 3) (by simp)
  exact this
@[simp] theorem cmp_eq_bl {a b : Bool} : cmpOp .Eq S (.bl a) (.bl b) = some (a == b) := by cases a <;> cases b <;> rfl
@[simp] theorem cmp_ne_bl {a b : Bool} : cmpOp .NotEq S (.bl a) (.bl b) = some (!(a == b)) := by cases a <;> cases b <;> rfl
theorem ib0 {n : Nat} : (((n : Nat) : Int) == 0) = decide (n = 0) := by
  by_cases h : n = 0
  · subst h; rfl
  · rw [decide_eq_false h, beq_eq_false_iff_ne]; omega
theorem ibn {n m : Nat} : (((n : Nat) : Int) == ((m : Nat) : Int)) = decide (n = m) := by
  by_cases h : n = m
  · subst h; simp
  · rw [decide_eq_false h, beq_eq_false_iff_ne]; omega
theorem ibn1 {n m : Nat} : (((n : Nat) : Int) == ((m : Nat) : Int) + 1) = decide (n = m + 1) := by
  by_cases h : n = m + 1
  · subst h; simp
  · rw [decide_eq_false h, beq_eq_false_iff_ne]; omega
theorem dpos {n : Nat} : decide (0 < n) = !decide (n = 0) := by cases n <;> simp
theorem ile1 {n m : Nat} : decide (((m : Nat) : Int) + 1 ≤ ((n : Nat) : Int)) = decide (m + 1 ≤ n) := decide_eq_decide.mpr (by omega)
theorem case_eq (h : HMean T) {k p : Nat} (hk : 1 ≤ k) : callN T k 32 [.int (p : Nat)] S = .ok (caseAt p).d S := by
  refine EP_pure (EP_callB h.h32 (by omega) rfl rfl ?_)
  have h1 : divOk 125 = true := by decide
  have h2 : divOk 25 = true := by decide
  have h3 : divOk 5 = true := by decide
  simp [f_case_at, b_case_at, h1, h2, h3, Ho.d, caseAt, lineN]
theorem mark_eq (h : HMean T) {k : Nat} {o : Ho} {m : Mk} (hk : 1 ≤ k) : callN T k 34 [o.d, .str m.s] S = .ok (.int (m.n o)) S := by
  refine EP_pure (EP_callB h.h34 (by omega) rfl rfl ?_)
  cases m <;> simp [-Bool.exists_bool, f_with_mark, b_with_mark, Ho.d, Mk.s, Mk.n]
theorem holds_eq (h : HMean T) {o : Ho} : ∀ (f : Fm) (k : Nat) (S : Store), f.dep + 1 ≤ k → callN T k 35 [f.d, o.d] S = .ok (.bl (f.on o)) S
  | .pr w s, k, S, hk => by
    refine EP_pure (EP_callB h.h35 (by omega) rfl rfl ?_)
    cases w <;> cases s <;> simp [-Bool.exists_bool, f_holds_in, b_holds_in, Ho.d, Fm.d, Fm.on, Fw.s, mk1, mk2, setV, lineN, ib0]
    all_goals exact dpos
  | .num j n m, k, S, hk => by
    have hm := mark_eq h (S := S) (o := o) (m := m) (k := k - 1) (by simp only [Fm.dep] at hk; omega)
    refine EP_pure (EP_callB h.h35 (by omega) rfl rfl ?_)
    have e : o.d = .tup [.int o.w, .int o.x, .int o.y, .int o.z] := rfl
    cases j <;> simp [-Bool.exists_bool, f_holds_in, b_holds_in, Fm.d, Fm.on, jw, n3, setV, hm, lineN, ibn1, ile1]
  | .not f, k, S, hk => by
    have hf := holds_eq h (o := o) f (k - 1) S (by simp only [Fm.dep] at hk; omega)
    refine EP_pure (EP_callB h.h35 (by omega) rfl rfl ?_)
    simp [-Bool.exists_bool, f_holds_in, b_holds_in, Fm.d, Fm.on, setV, hf, lineN]
  | .bin w f g, k, S, hk => by
    have hf := holds_eq h (o := o) f (k - 1) S (by simp only [Fm.dep] at hk; omega)
    have hg := holds_eq h (o := o) g (k - 1) S (by simp only [Fm.dep] at hk; omega)
    refine EP_pure (EP_callB h.h35 (by omega) rfl rfl ?_)
    cases w <;> simp only [Fm.on] <;> generalize Fm.on o f = b1 at hf ⊢ <;> generalize Fm.on o g = b2 at hg ⊢ <;> cases b1 <;> cases b2 <;> simp [-Bool.exists_bool, f_holds_in, b_holds_in, Fm.d, Fm.on, Bw.s, setV, setVs, hf, hg, lineN]
end
end NW
end
section
/- Short comprehensions; what the law says of a formula in a house. -/
namespace NW
open PySem
section
variable {T : Nat → Option FD} {S : Store}
theorem EP_noEx {α : Type} {r : R D} {f : D → Store → R α} {Q : α → Store → Prop} {W : Xc → Store → Prop} : EPX (noEx r f) Q W ↔ EP r fun d S' => EPX (f d S') Q W := by
  cases r <;> simp [noEx]
theorem EP_comp0 {tg : Tg} {c : Option ME} {elt : ME} {src : Src} {G : Env} {acc : List D} {Q : D → Store → Prop} {W : Xc → Store → Prop} : EPX (compGo tg c elt src G [] acc S) Q W ↔ src.stays S = true ∧ Q (.lst acc) S := by
  simp only [compGo]
  by_cases h : src.stays S = true
  · simp [h]
  · simp [h]
theorem EP_comp1 {tg : Tg} {elt : ME} {src : Src} {G : Env} {x : D} {xs acc : List D} {Q : D → Store → Prop} {W : Xc → Store → Prop} : EPX (compGo tg none elt src G (x :: xs) acc S) Q W ↔
    src.stays S = true ∧ acc.length < lineN ∧ ∃ G2, setTg G tg x = some G2 ∧ EP (elt G2 S) fun d S2 => EPX (compGo tg none elt src G xs (acc ++ [d]) S2) Q W := by
  simp only [compGo]
  by_cases h : src.stays S = true
  · by_cases h2 : acc.length < lineN
    · simp only [h, h2, decide_true, Bool.and_self, if_true, true_and]
      cases setTg G tg x with
      | none => simp
      | some G2 => simp [compTurn, EP_noEx]
    · simp [h2]
  · simp [h]
theorem EP_comp2 {tg : Tg} {c' elt : ME} {src : Src} {G : Env} {x : D} {xs acc : List D} {Q : D → Store → Prop} {W : Xc → Store → Prop} : EPX (compGo tg (some c') elt src G (x :: xs) acc S) Q W ↔
    src.stays S = true ∧ acc.length < lineN ∧ ∃ G2, setTg G tg x = some G2 ∧ EP (c' G2 S) fun t S1 => ∃ b, t = .bl b ∧ if b = true then EP (elt G2 S1) fun d S2 => EPX (compGo tg (some c') elt src G xs (acc ++ [d]) S2) Q W else EPX (compGo tg (some c') elt src G xs acc S1) Q W := by
  simp only [compGo]
  by_cases h : src.stays S = true
  · by_cases h2 : acc.length < lineN
    · simp only [h, h2, decide_true, Bool.and_self, if_true, true_and]
      cases setTg G tg x with
      | none => simp
      | some G2 =>
        simp only [compTurn, EP_noEx, Option.some.injEq, exists_eq_left']
        refine EP_congr fun t S1 => ?_
        cases t with
        | bl b => cases b <;> simp [EP_noEx, -Bool.exists_bool]
        | _ => simp
    · simp [h2]
  · simp [h]
structure HLaw4 (T : Nat → Option FD) : Prop where
  h45 : Is T 45 f__law_holds
theorem not_in1 {b c : Bool} : cmpOp .NotIn S (.bl false) (.lst [.bl b, .bl c]) = some (b && c) := by cases b <;> cases c <;> rfl
theorem is_in1 {b c : Bool} : cmpOp .In S (.bl true) (.lst [.bl b, .bl c]) = some (b || c) := by cases b <;> cases c <;> rfl
theorem ne_tf {b c : Bool} : cmpOp .NotEq S (.lst [.bl b, .bl c]) (.lst [.bl true, .bl false]) = some (c || !b) := by cases b <;> cases c <;> rfl
@[simp] theorem sb_ba : (("b" : Str) == ("a" : Str)) = false := by decide +kernel
@[simp] theorem sb_oa : (("both" : Str) == ("a" : Str)) = false := by decide +kernel
@[simp] theorem sb_ob : (("both" : Str) == ("b" : Str)) = false := by decide +kernel
theorem pick_ok2 : pickOk ["a", "b"] 2 = true := by decide +kernel
theorem pick_ok3 : pickOk ["a", "b", "both"] 3 = true := by decide +kernel
theorem lholds_eq (h : HLaw4 T) {o : Ho} : ∀ (f : Fm) (k : Nat) (S : Store), f.dep ≤ k → callN T k 45 [f.d, o.d] S = .ok (.bl (f.on o)) S
  | .pr w s, k, S, hk => by
    refine EP_pure (EP_callB h.h45 (by simp only [Fm.dep] at hk; omega) rfl rfl ?_)
    cases w <;> cases s <;> simp [-Bool.exists_bool, f__law_holds, b__law_holds, Ho.d, Fm.d, Fm.on, Fw.s, mk1, mk2, setV, lineN, ib0, pick_ok2, List.lookup]
    all_goals first | exact dpos.symm | (rw [dpos]; cases decide (o.z = 0) <;> rfl)
  | .num j n m, k, S, hk => by
    refine EP_pure (EP_callB h.h45 (by simp only [Fm.dep] at hk; omega) rfl rfl ?_)
    cases j <;> cases m <;> simp [-Bool.exists_bool, f__law_holds, b__law_holds, Ho.d, Fm.d, Fm.on, jw, n3, setV, lineN, ibn1, ile1, pick_ok3, Mk.s, Mk.n, List.lookup]
    all_goals first | (exact decide_eq_decide.mpr (by omega)) | (rw [Bool.eq_iff_iff]; simp only [beq_iff_eq, decide_eq_true_eq]; omega)
  | .not f, k, S, hk => by
    have hf := lholds_eq h (o := o) f (k - 1) S (by simp only [Fm.dep] at hk; omega)
    refine EP_pure (EP_callB h.h45 (by simp only [Fm.dep] at hk; omega) rfl rfl ?_)
    have hc : cutD [D.str "not", f.d] (some 1) none = [f.d] := rfl
    simp [-Bool.exists_bool, f__law_holds, b__law_holds, Fm.d, Fm.on, setV, hf, lineN, EP_comp0, EP_comp1, hc, setTg, wipeE]
  | .bin w f g, k, S, hk => by
    have hf := lholds_eq h (o := o) f (k - 1) S (by simp only [Fm.dep] at hk; omega)
    have hg := lholds_eq h (o := o) g (k - 1) S (by simp only [Fm.dep] at hk; omega)
    have hc : ∀ x : D, cutD [x, f.d, g.d] (some 1) none = [f.d, g.d] := fun _ => rfl
    refine EP_pure (EP_callB h.h45 (by simp only [Fm.dep] at hk; omega) rfl rfl ?_)
    cases w <;> simp only [Fm.on] <;> generalize Fm.on o f = b1 at hf ⊢ <;> generalize Fm.on o g = b2 at hg ⊢ <;> simp [-Bool.exists_bool, f__law_holds, b__law_holds, Fm.d, Bw.s, setV, setVs, hf, hg, lineN, EP_comp0, EP_comp1, hc, setTg, wipeE, not_in1, is_in1, ne_tf]
    cases b1 <;> cases b2 <;> rfl
end
end NW
end
section
/- Truths as bits of a number. -/
namespace NW
open PySem
def nb : List Bool → Nat
  | [] => 0
  | b :: r => b.toNat + 2 * nb r
theorem nb_bit : ∀ (bs : List Bool) (i : Nat), (nb bs).testBit i = (bs[i]?).getD false
  | [], i => by simp [nb]
  | b :: r, 0 => by
    rw [Nat.testBit_zero]
    show decide ((b.toNat + 2 * nb r) % 2 = 1) = b
    cases b
    · simp
    · have : (Bool.toNat true + 2 * nb r) % 2 = 1 := by show (1 + 2 * nb r) % 2 = 1; omega
      rw [this]; rfl
  | b :: r, i + 1 => by
    rw [Nat.testBit_succ]
    have : nb (b :: r) / 2 = nb r := by
      show (b.toNat + 2 * nb r) / 2 = nb r
      cases b
      · show (0 + 2 * nb r) / 2 = _; omega
      · show (1 + 2 * nb r) / 2 = _; omega
    rw [this, nb_bit r i]
    simp
theorem nb_bitop {α : Type} {f : Bool → Bool → Bool} {g : Nat → Nat → Nat} (hf : f false false = false) (hg : ∀ a b i, (g a b).testBit i = f (a.testBit i) (b.testBit i)) (l : List α) (p q : α → Bool) : g (nb (l.map p)) (nb (l.map q)) = nb (l.map fun x => f (p x) (q x)) := by
  apply Nat.eq_of_testBit_eq
  intro i
  rw [hg, nb_bit, nb_bit, nb_bit]
  simp only [List.getElem?_map]
  cases l[i]? with
  | none => simpa using hf
  | some a => rfl
theorem nb_and {α : Type} (l : List α) (p q : α → Bool) : nb (l.map p) &&& nb (l.map q) = nb (l.map fun x => p x && q x) := nb_bitop (f := fun a b => a && b) (g := fun a b => a &&& b) rfl (fun _ _ _ => Nat.testBit_and ..) l p q
theorem nb_or {α : Type} (l : List α) (p q : α → Bool) : nb (l.map p) ||| nb (l.map q) = nb (l.map fun x => p x || q x) := nb_bitop (f := fun a b => a || b) (g := fun a b => a ||| b) rfl (fun _ _ _ => Nat.testBit_or ..) l p q
theorem nb_not {α : Type} (p : α → Bool) : ∀ l : List α, nb (l.map p) + nb (l.map fun x => !p x) + 1 = 2 ^ l.length
  | [] => rfl
  | a :: l => by
    have ih := nb_not p l
    simp only [List.map_cons, nb, List.length_cons, Nat.pow_succ]
    cases p a
    · show 0 + 2 * nb (l.map p) + (1 + 2 * nb (l.map fun x => !p x)) + 1 = _; omega
    · show 1 + 2 * nb (l.map p) + (0 + 2 * nb (l.map fun x => !p x)) + 1 = _; omega
theorem nb_xor {α : Type} (p q : α → Bool) : ∀ l : List α, nb (l.map fun x => p x || q x) = nb (l.map fun x => p x && q x) + nb (l.map fun x => p x != q x)
  | [] => rfl
  | a :: l => by
    have ih := nb_xor p q l
    simp only [List.map_cons, nb, ih]
    cases p a <;> cases q a <;> simp <;> omega
theorem bAnd (a b : Nat) : Builtin.bitAnd (a : Int) (b : Int) = ((a &&& b : Nat) : Int) := by
  rw [PyProof.Rows.bitAnd_pp (Int.natCast_nonneg a) (Int.natCast_nonneg b)]
  rfl
theorem bOr (a b : Nat) : Builtin.bitOr (a : Int) (b : Int) = ((a ||| b : Nat) : Int) := by
  unfold Builtin.bitOr Builtin.bitAnd
  have h1 : ¬ (0 : Int) ≤ Builtin.bitNot (a : Int) := by unfold Builtin.bitNot; omega
  have h2 : ¬ (0 : Int) ≤ Builtin.bitNot (b : Int) := by unfold Builtin.bitNot; omega
  rw [decide_eq_false h1, decide_eq_false h2]
  have e : ∀ n : Int, Builtin.bitNot (Builtin.bitNot n) = n := fun n => by unfold Builtin.bitNot; omega
  simp only [e]
  rfl
theorem nb_shift {α : Type} (l : List α) (p : α → Bool) (i : Nat) : (((nb (l.map p) : Nat) : Int) / 2 ^ i % 2 == 1) = (match l[i]? with
    | some a => p a
    | none => false) := by
  have h := nb_bit (l.map p) i
  rw [Nat.testBit_eq_decide_div_mod_eq] at h
  have e : (((nb (l.map p) : Nat) : Int) / 2 ^ i % 2) = ((nb (l.map p) / 2 ^ i % 2 : Nat) : Int) := by
    push_cast
    rfl
  rw [e]
  rw [show (1 : Int) = ((1 : Nat) : Int) from rfl, ibn, h, List.getElem?_map]
  cases l[i]? <;> rfl
@[simp] theorem bi_shl {i j : Int} : binInt .LShift i j = if powOk i j then some (i * 2 ^ j.toNat) else none := rfl
@[simp] theorem bi_shr {i j : Int} : binInt .RShift i j = if 0 ≤ j then some (i / 2 ^ j.toNat) else none := rfl
@[simp] theorem bi_band {i j : Int} : binInt .BitAnd i j = some (Builtin.bitAnd i j) := rfl
@[simp] theorem bi_bor {i j : Int} : binInt .BitOr i j = some (Builtin.bitOr i j) := rfl
@[simp] theorem bi_bxor {i j : Int} : binInt .BitXor i j = some (Builtin.bitXor i j) := rfl
section
variable {T : Nat → Option FD} {S : Store}
theorem SP_go0 {tg : Tg} {b : MS} {src : Src} {G : Env} {N Bk : Env → Store → Prop} {Rt : D → Store → Prop} {V : Xc → Env → Store → Prop} : SPX (forGo tg b src [] G S) N Rt Bk V ↔ src.stays S = true ∧ N G S := by
  simp only [forGo]
  by_cases h : src.stays S = true <;> simp [h]
theorem SP_go1 {tg : Tg} {b : MS} {src : Src} {x : D} {xs : List D} {G : Env} {N Bk : Env → Store → Prop} {Rt : D → Store → Prop} {V : Xc → Env → Store → Prop} : SPX (forGo tg b src (x :: xs) G S) N Rt Bk V ↔
    src.stays S = true ∧ ∃ G2, setTg G tg x = some G2 ∧ SPX (b G2 S) (fun G3 S3 => SPX (forGo tg b src xs G3 S3) N Rt Bk V) Rt N V := by
  simp only [forGo]
  by_cases h : src.stays S = true
  · simp only [h, if_true, true_and]
    cases setTg G tg x with
    | none => simp
    | some G2 =>
      simp only [Option.some.injEq, exists_eq_left']
      cases b G2 S with
      | fl f G3 S3 => cases f <;> simp
      | exc _ _ _ => simp
      | bad => simp
  · simp [h]
theorem bits_eq (h37 : Is T 37 f_bits_of) {k : Nat} {bs : List Bool} (hk : 1 ≤ k) (hl : bs.length ≤ 1000) : callN T k 37 [.lst (bs.map .bl)] S = .ok (.int (nb bs)) S := by
  refine EP_pure (EP_callB h37 (by omega) rfl rfl ?_)
  unfold f_bits_of b_bits_of
  refine SP_cons.mpr (SP_set.mpr ?_)
  simp [-SP_cons, setV]
  refine SP_cons.mpr (SP_for.mpr ?_)
  simp [-SP_cons]
  refine SP_forGo (fun xs G S' => S' = S ∧ ∃ (i : Nat) (r : List Bool) (acc : Nat) (g2 g3 : Option D), xs = ((r.map D.bl).zipIdx i).map (fun p => .tup [.int (p.2 : Nat), p.1]) ∧ G = [some (.lst (bs.map .bl)), some (.int acc), g2, g3] ∧ acc + 2 ^ i * nb r = nb bs ∧ i + r.length ≤ 1000)
    (fun _ _ _ _ => rfl) ?_ ?_ _ _ _ ⟨rfl, 0, bs, 0, none, none, rfl, rfl, by simp, by omega⟩
  · rintro G S' ⟨rfl, i, r, acc, g2, g3, e, rfl, ha, hr⟩
    cases r with
    | cons _ _ => simp at e
    | nil =>
      have : acc = nb bs := by rw [← ha]; simp [nb]
      subst this
      simp
  · rintro x xs G S' ⟨rfl, i, r, acc, g2, g3, e, rfl, ha, hr⟩
    cases r with
    | nil => simp at e
    | cons b r =>
      simp only [List.map_cons, List.zipIdx_cons, List.cons.injEq] at e
      obtain ⟨rfl, rfl⟩ := e
      refine ⟨_, rfl, ?_⟩
      simp only [List.length_cons] at hr
      have hp : powOk 1 (i : Nat) = true := by
        unfold powOk
        simp only [decide_eq_true_eq]
        omega
      cases b
      · simp [-Bool.exists_bool, setV]
        refine ⟨i + 1, r, rfl, acc, rfl, ?_, by omega⟩
        rw [← ha]
        simp only [nb, Nat.pow_succ]
        simp [Nat.mul_assoc]
      · simp [-Bool.exists_bool, setV, hp]
        refine ⟨i + 1, r, rfl, acc + 2 ^ i, by push_cast; rfl, ?_, by omega⟩
        rw [← ha]
        simp only [nb, Nat.pow_succ]
        simp [Nat.mul_add, Nat.mul_assoc, Nat.add_assoc]
end
end NW
end
section
/- The law's words, its reading; what is tried. -/
namespace NW
open PySem TL
structure HL8 (T : Nat → Option FD) : Prop extends HTxt T, HGen T where
  h127 : Is T 127 f__law_word_of
  h128 : Is T 128 f__law_words
  h129 : Is T 129 f__law_due
  h130 : Is T 130 f__law_bent_k08
  h131 : Is T 131 f__law_tried
theorem sput_len (kvs : List (Str × D)) (x : Str) (d : D) : (sput kvs x d).length ≤ kvs.length + 1 := by
  unfold sput
  split <;> simp
theorem put_end {S0 : Store} {kvs : List (Str × D)} {x : Str} {d : D} (hl : kvs.length < 1000) : setItemD (S0 ++ [.dks false kvs]) (.loc S0.length) (.str x) d = some (S0 ++ [.dks false (sput kvs x d)]) := by
  rw [set_dks (kvs := kvs) (by simp) (by simp [lineN]; omega)]
  simp
theorem bin_str_ok {S : Store} {x y : Str} (h : x.length + y.length ≤ 1000) : binOp .Add S (.str x) (.str y) = some (.str (x ++ y)) := by
  rw [bin_str, if_pos (by simp [lineN]; omega)]
section
variable {T : Nat → Option FD} {S : Store} {C : Calls}
theorem loop_a {S0 : Store} {src : Src} (hst : ∀ S, src.stays S = true) {b c d e : Option D} : ∀ (ws : List Str) (kvs : List (Str × D)) (a : Option D), kvs.length + ws.length < 1000 →
    SP (forGo (.name 1) (evSs C (.cons (.setI (.var 0) (.var 1) (.var 1)) (.nil))) src (ws.map .str) [some (.loc S0.length), a, b, c, d, e] (S0 ++ [.dks false kvs]))
      (fun G S' => (∃ a, G = [some (.loc S0.length), a, b, c, d, e]) ∧ S' = S0 ++ [.dks false (ws.foldl (fun k w => sput k w (.str w)) kvs)]) (fun _ _ => False) (fun _ _ => False)
  | [], kvs, a, h => by simp [SP_go0, hst]
  | w :: ws, kvs, a, h => by
    have hl := sput_len kvs w (.str w)
    simp only [List.length_cons] at h
    refine SP_go1.mpr ⟨hst _, _, rfl, ?_⟩
    simp [setV, put_end (S0 := S0) (kvs := kvs) (x := w) (d := .str w) (by omega)]
    exact loop_a hst ws (sput kvs w (.str w)) _ (by omega)
theorem loop_b {S0 : Store} {src : Src} (hst : ∀ S, src.stays S = true) {f s : Str} (hf : f.length ≤ 10) (hs : s.length ≤ 10) {b e : Option D} : ∀ (ws : List Str) (kvs : List (Str × D)) (a : Option D), (∀ w ∈ ws, w.length ≤ 10) → kvs.length + ws.length < 1000 →
    SP (forGo (.name 1) (evSs C (.cons (.setI (.var 0) (.bin .Add (.bin .Add (.bin .Add (.bin .Add (.var 1) (.str "-")) (.var 3)) (.str "-")) (.var 4)) (.tup (.cons (.var 1) (.cons (.var 3) (.cons (.var 4) (.nil)))))) (.nil))) src (ws.map .str) [some (.loc S0.length), a, b, some (.str f), some (.str s), e] (S0 ++ [.dks false kvs]))
      (fun G S' => (∃ a, G = [some (.loc S0.length), a, b, some (.str f), some (.str s), e]) ∧ S' = S0 ++ [.dks false (ws.foldl (fun k w => sput k (w ++ "-" ++ f ++ "-" ++ s) (.tup [.str w, .str f, .str s])) kvs)]) (fun _ _ => False) (fun _ _ => False)
  | [], kvs, a, _, h => by simp [SP_go0, hst]
  | w :: ws, kvs, a, hw, h => by
    have hl := sput_len kvs (w ++ "-" ++ f ++ "-" ++ s) (.tup [.str w, .str f, .str s])
    have hwl := hw w (by simp)
    have e1 : ("-" : Str).length = 1 := by decide +kernel
    simp only [List.length_cons] at h
    refine SP_go1.mpr ⟨hst _, _, rfl, ?_⟩
    have b1 : ∀ S, binOp .Add S (.str w) (.str "-") = some (.str (w ++ "-")) := fun S => bin_str_ok (by omega)
    have b2 : ∀ S, binOp .Add S (.str (w ++ "-")) (.str f) = some (.str (w ++ "-" ++ f)) := fun S => bin_str_ok (by rw [Str.length_append]; omega)
    have b3 : ∀ S, binOp .Add S (.str (w ++ "-" ++ f)) (.str "-") = some (.str (w ++ "-" ++ f ++ "-")) := fun S => bin_str_ok (by rw [Str.length_append, Str.length_append]; omega)
    have b4 : ∀ S, binOp .Add S (.str (w ++ "-" ++ f ++ "-")) (.str s) = some (.str (w ++ "-" ++ f ++ "-" ++ s)) := fun S => bin_str_ok (by rw [Str.length_append, Str.length_append, Str.length_append]; omega)
    have b5 := put_end (S0 := S0) (kvs := kvs) (x := w ++ "-" ++ f ++ "-" ++ s) (d := .tup [.str w, .str f, .str s]) (by omega)
    simp [-bin_str, setV, lineN, b1, b2, b3, b4, b5]
    exact loop_b hst hf hs ws (sput kvs (w ++ "-" ++ f ++ "-" ++ s) (.tup [.str w, .str f, .str s])) _ (fun v hv => hw v (by simp [hv])) (by omega)
theorem loop_c {S0 : Store} {src : Src} (hst : ∀ S, src.stays S = true) {n : Int} {tn : Str} (hn : ∀ S, callB .str S [.int n] = some (.str tn)) (hn2 : tn.length ≤ 10) {a c d : Option D} : ∀ (ws : List Str) (kvs : List (Str × D)) (e : Option D), (∀ w ∈ ws, w.length ≤ 10) → kvs.length + ws.length < 1000 →
    SP (forGo (.name 5) (evSs C (.cons (.setI (.var 0) (.bin .Add (.bin .Add (.bin .Add (.str "has-") (.cb .str (.cons (.var 2) (.nil)))) (.str "-")) (.var 5)) (.tup (.cons (.str "has") (.cons (.var 2) (.cons (.var 5) (.nil)))))) (.nil))) src (ws.map .str) [some (.loc S0.length), a, some (.int n), c, d, e] (S0 ++ [.dks false kvs]))
      (fun G S' => (∃ e, G = [some (.loc S0.length), a, some (.int n), c, d, e]) ∧ S' = S0 ++ [.dks false (ws.foldl (fun k w => sput k ("has-" ++ tn ++ "-" ++ w) (.tup [.str "has", .int n, .str w])) kvs)]) (fun _ _ => False) (fun _ _ => False)
  | [], kvs, a, _, h => by simp [SP_go0, hst]
  | w :: ws, kvs, a, hw, h => by
    have hl := sput_len kvs ("has-" ++ tn ++ "-" ++ w) (.tup [.str "has", .int n, .str w])
    have hwl := hw w (by simp)
    have e1 : ("-" : Str).length = 1 := by decide +kernel
    have e2 : ("has-" : Str).length = 4 := by decide +kernel
    simp only [List.length_cons] at h
    refine SP_go1.mpr ⟨hst _, _, rfl, ?_⟩
    have b1 : ∀ S, binOp .Add S (.str "has-") (.str tn) = some (.str ("has-" ++ tn)) := fun S => bin_str_ok (by omega)
    have b2 : ∀ S, binOp .Add S (.str ("has-" ++ tn)) (.str "-") = some (.str ("has-" ++ tn ++ "-")) := fun S => bin_str_ok (by rw [Str.length_append]; omega)
    have b3 : ∀ S, binOp .Add S (.str ("has-" ++ tn ++ "-")) (.str w) = some (.str ("has-" ++ tn ++ "-" ++ w)) := fun S => bin_str_ok (by rw [Str.length_append, Str.length_append]; omega)
    have b5 := put_end (S0 := S0) (kvs := kvs) (x := "has-" ++ tn ++ "-" ++ w) (d := .tup [.str "has", .int n, .str w]) (by omega)
    simp [-bin_str, -str_int, setV, lineN, hn, b1, b2, b3, b5]
    exact loop_c hst hn hn2 ws (sput kvs ("has-" ++ tn ++ "-" ++ w) (.tup [.str "has", .int n, .str w])) _ (fun v hv => hw v (by simp [hv])) (by omega)
def kn1 : List (Str × D) := (["and", "or", "unless", "onlyif", "not", "(", ")"] : List Str).foldl (fun k w => sput k w (.str w)) []
def kn2 (f s : Str) (kvs : List (Str × D)) : List (Str × D) := (["all", "some", "no", "allnot"] : List Str).foldl (fun k w => sput k (w ++ "-" ++ f ++ "-" ++ s) (.tup [.str w, .str f, .str s])) kvs
def kn3 (n : Int) (kvs : List (Str × D)) : List (Str × D) := (["a", "b", "both"] : List Str).foldl (fun k w => sput k ("has-" ++ Str.ofString (toString n) ++ "-" ++ w) (.tup [.str "has", .int n, .str w])) kvs
theorem kn_all : kn3 3 (kn3 2 (kn3 1 (kn2 "b" "a" (kn2 "a" "b" kn1)))) = KN := by
  have h : Ob.same (.dks false (kn3 3 (kn3 2 (kn3 1 (kn2 "b" "a" (kn2 "a" "b" kn1)))))) (.dks false KN) = true := by decide +kernel
  exact (Ob.dks.inj (Ob.same_eq h)).2
theorem kn_len : kn1.length < 100 ∧ (kn2 "a" "b" kn1).length < 100 ∧ (kn2 "b" "a" (kn2 "a" "b" kn1)).length < 100 ∧ (kn3 1 (kn2 "b" "a" (kn2 "a" "b" kn1))).length < 100 ∧ (kn3 2 (kn3 1 (kn2 "b" "a" (kn2 "a" "b" kn1)))).length < 100 := by decide +kernel
theorem words_ok (h : Is T 128 f__law_words) {k : Nat} : callN T (k + 1) 128 [] S = .ok (.loc S.length) (S ++ [.dks false KN]) := by
  refine EP_pure (EP_call h rfl rfl ?_)
  unfold f__law_words b__law_words
  obtain ⟨l1, l2, l3, l4, l5⟩ := kn_len
  refine SP_cons.mpr (SP_set.mpr ?_)
  simp [-SP_cons, setV]
  refine SP_cons.mpr (SP_for.mpr ?_)
  simp [-SP_cons, lineN]
  refine SP.to (loop_a (src := ⟨[D.str "and", .str "or", .str "unless", .str "onlyif", .str "not", .str "(", .str ")"], none⟩) (fun _ => rfl) (["and", "or", "unless", "onlyif", "not", "(", ")"] : List Str) [] _ (by decide)) ?_ (fun _ _ z => z.elim) (fun _ _ z => z.elim)
  rintro G S1 ⟨⟨a, rfl⟩, e⟩
  replace e : S1 = S ++ [.dks false kn1] := e
  subst e
  refine SP_cons.mpr (SP_for.mpr ?_)
  have len1 : ∀ w ∈ (["all", "some", "no", "allnot"] : List Str), w.length ≤ 10 := by decide +kernel
  have len2 : ∀ w ∈ (["a", "b", "both"] : List Str), w.length ≤ 10 := by decide +kernel
  have la : ("a" : Str).length ≤ 10 := by decide +kernel
  have lb : ("b" : Str).length ≤ 10 := by decide +kernel
  simp [-SP_cons, lineN]
  refine SP_go1.mpr ⟨rfl, _, rfl, ?_⟩
  simp [-SP_cons, setV, setVs, lineN]
  refine SP_cons.mpr (SP_for.mpr ?_)
  simp [-SP_cons, lineN]
  refine SP.to (loop_b (src := ⟨[D.str "all", .str "some", .str "no", .str "allnot"], none⟩) (fun _ => rfl) la lb (["all", "some", "no", "allnot"] : List Str) kn1 _ len1 (by simp; omega)) ?_ (fun _ _ z => z.elim) (fun _ _ z => z.elim)
  rintro G S1 ⟨⟨a, rfl⟩, e⟩
  replace e : S1 = S ++ [.dks false (kn2 "a" "b" kn1)] := e
  subst e
  refine SP_go1.mpr ⟨rfl, _, rfl, ?_⟩
  simp [-SP_cons, setV, setVs, lineN]
  refine SP_cons.mpr (SP_for.mpr ?_)
  simp [-SP_cons, lineN]
  refine SP.to (loop_b (src := ⟨[D.str "all", .str "some", .str "no", .str "allnot"], none⟩) (fun _ => rfl) lb la (["all", "some", "no", "allnot"] : List Str) (kn2 "a" "b" kn1) _ len1 (by simp; omega)) ?_ (fun _ _ z => z.elim) (fun _ _ z => z.elim)
  rintro G S1 ⟨⟨a, rfl⟩, e⟩
  replace e : S1 = S ++ [.dks false (kn2 "b" "a" (kn2 "a" "b" kn1))] := e
  subst e
  refine SP_go0.mpr ⟨rfl, SP_cons.mpr (SP_for.mpr ?_)⟩
  have t1 : (Str.ofString (toString (1 : Int))).length ≤ 10 := by decide +kernel
  have t2 : (Str.ofString (toString (2 : Int))).length ≤ 10 := by decide +kernel
  have t3 : (Str.ofString (toString (3 : Int))).length ≤ 10 := by decide +kernel
  simp [-SP_cons, lineN]
  refine SP_go1.mpr ⟨rfl, _, rfl, ?_⟩
  simp [-SP_cons, setV, lineN]
  refine SP_cons.mpr (SP_for.mpr ?_)
  simp [-SP_cons, lineN]
  refine SP.to (loop_c (src := ⟨[D.str "a", .str "b", .str "both"], none⟩) (fun _ => rfl) (n := 1) (fun S => by rw [str_int, if_pos (by decide)]) t1 (["a", "b", "both"] : List Str) (kn2 "b" "a" (kn2 "a" "b" kn1)) _ len2 (by simp; omega)) ?_ (fun _ _ z => z.elim) (fun _ _ z => z.elim)
  rintro G S1 ⟨⟨e0, rfl⟩, e⟩
  replace e : S1 = S ++ [.dks false (kn3 1 (kn2 "b" "a" (kn2 "a" "b" kn1)))] := e
  subst e
  refine SP_go1.mpr ⟨rfl, _, rfl, ?_⟩
  simp [-SP_cons, setV, lineN]
  refine SP_cons.mpr (SP_for.mpr ?_)
  simp [-SP_cons, lineN]
  refine SP.to (loop_c (src := ⟨[D.str "a", .str "b", .str "both"], none⟩) (fun _ => rfl) (n := 2) (fun S => by rw [str_int, if_pos (by decide)]) t2 (["a", "b", "both"] : List Str) (kn3 1 (kn2 "b" "a" (kn2 "a" "b" kn1))) _ len2 (by simp; omega)) ?_ (fun _ _ z => z.elim) (fun _ _ z => z.elim)
  rintro G S1 ⟨⟨e0, rfl⟩, e⟩
  replace e : S1 = S ++ [.dks false (kn3 2 (kn3 1 (kn2 "b" "a" (kn2 "a" "b" kn1))))] := e
  subst e
  refine SP_go1.mpr ⟨rfl, _, rfl, ?_⟩
  simp [-SP_cons, setV, lineN]
  refine SP_cons.mpr (SP_for.mpr ?_)
  simp [-SP_cons, lineN]
  refine SP.to (loop_c (src := ⟨[D.str "a", .str "b", .str "both"], none⟩) (fun _ => rfl) (n := 3) (fun S => by rw [str_int, if_pos (by decide)]) t3 (["a", "b", "both"] : List Str) (kn3 2 (kn3 1 (kn2 "b" "a" (kn2 "a" "b" kn1)))) _ len2 (by simp; omega)) ?_ (fun _ _ z => z.elim) (fun _ _ z => z.elim)
  rintro G S1 ⟨⟨e0, rfl⟩, e⟩
  replace e : S1 = S ++ [.dks false (kn3 3 (kn3 2 (kn3 1 (kn2 "b" "a" (kn2 "a" "b" kn1)))))] := e
  rw [kn_all] at e
  subst e
  refine SP_go0.mpr ⟨rfl, ?_⟩
  simp
end
end NW
end
section
/- The law's reading of a text; what is tried; the law's word of a sign. -/
namespace NW
open PySem TL
section
variable {T : Nat → Option FD} {S : Store}
theorem tried_str (h : HL8 T) {k : Nat} {x : Str} (ha : asc x) (hl : x.length ≤ 1000) : callN T (k + 37) 131 [.str x] S = .ok (TR x) S := by
  refine EP_pure (EP_call h.h131 rfl rfl ?_)
  have e := read_ok (k := k) (S := S) h.toHTxt ha hl
  unfold f__law_tried b__law_tried
  refine SP_cons.mpr (SP_set.mpr ?_)
  simp [-SP_cons, setV]
  refine SP_cons.mpr (SP_tryAs.mpr ?_)
  refine SP_cons.mpr (SP_set.mpr ?_)
  have hTR : (∃ ds, TR x = .tup ds) ∨ ∃ i, TR x = .int i := by
    unfold TR
    split
    · exact .inr ⟨_, rfl⟩
    · split
      · exact .inl ⟨_, rfl⟩
      · exact .inr ⟨_, rfl⟩
  unfold ansR at e
  rcases hTR with ⟨ds, hd⟩ | ⟨i, hd⟩
  · rw [hd] at e
    simp [e, hd, setV]
  · rw [hd] at e
    simp [e, hd, setV, caughtAs]
theorem tried_odd (h : HL8 T) {k : Nat} {v : D} (hv : v.ok = true) (hs : isStr v = false) : callN T (k + 37) 131 [v] S = .ok (.int 0) S := by
  refine EP_pure (EP_call h.h131 rfl rfl ?_)
  have e := read_none (k := k + 35) (S := S) h.toHTxt hv hs
  unfold f__law_tried b__law_tried
  refine SP_cons.mpr (SP_set.mpr ?_)
  simp [-SP_cons, setV]
  refine SP_cons.mpr (SP_tryAs.mpr ?_)
  refine SP_cons.mpr (SP_set.mpr ?_)
  simp [e, setV, caughtAs]
theorem rd_all : ∀ {ws : List Str} {i : Nat} {acc : List D}, (∀ w ∈ ws, isNone (RS w) = false) → rd ws i acc = .inr (acc ++ ws.map RS)
  | [], i, acc, _ => by simp [rd]
  | w :: ws, i, acc, h => by
    simp only [rd, h w (by simp), Bool.false_eq_true, if_false]
    rw [rd_all fun v hv => h v (by simp [hv])]
    simp
theorem due_ok (h : HL8 T) {k n : Nat} {x : Str} {f : Bool} (hn : S[n]? = some (.dks f KN)) (ha : asc x) (hl : x.length ≤ 1000) : callN T (k + 37) 129 [.str x, .loc n] S = .ok (TR x) S := by
  refine EP_pure (EP_call h.h129 rfl rfl ?_)
  obtain ⟨hw, hnl⟩ := words_good ha hl
  have hd := blank.2.2
  have hxl : x.length + 2 ≤ lineN := by simp [lineN]; omega
  unfold f__law_due b__law_due
  refine SP_cons.mpr (SP_set.mpr ?_)
  simp [-SP_cons, hd, hxl, setV]
  refine SP_cons.mpr (SP_for.mpr ?_)
  simp [-SP_cons]
  show SPX (forGo _ _ ⟨itemsE 0 (Txt.split x " "), none⟩ (itemsE 0 (Txt.split x " ")) _ S) _ _ _ _
  have hTR : TR x = (match rd (Txt.split x " ") 0 [] with
    | .inl i => .int (i : Nat)
    | .inr ds => if mNotice (.tup ds) = true then .tup ds else .int ((ds.length : Nat) + 1)) := rfl
  generalize Txt.split x " " = W at *
  refine SP_forGo (fun xs G S' => S' = S ∧ ∃ (pre ws : List Str) (a b : Option D), xs = itemsE pre.length ws ∧ W = pre ++ ws ∧ (∀ w ∈ pre, isNone (RS w) = false) ∧ G = [some (.str x), some (.loc n), some (.lst (W.map .str)), none, a, b])
    (fun _ _ _ _ => rfl) ?_ ?_ _ _ _ ⟨rfl, [], W, none, none, rfl, rfl, fun w hw => by simp at hw, rfl⟩
  · rintro G S' ⟨rfl, pre, ws, a, b, e, eW, hp, rfl⟩
    have hws : ws = [] := by cases ws <;> first | rfl | cases e
    subst hws
    rw [List.append_nil] at eW
    subst eW
    rw [rd_all hp] at hTR
    simp only [List.nil_append] at hTR
    have hc : ∀ G : Env, 5 < G.length → G[1]? = some (some (.loc n)) → compGo (.name 5) none (evE (callN T (k + 36)) (.idx (.var 1) (.var 5))) ⟨W.map .str, none⟩ G (W.map .str) [] S' = .ok (.lst (W.map RS)) S' := fun G hG hG1 => by
      have := compGo_map (tg := .name 5) (elt := evE (callN T (k + 36)) (.idx (.var 1) (.var 5))) (G := G) (S := S') (xs := W.map .str) (fun d => match d with | .str p => RS p | d => d) (by simp [lineN]; omega) fun d hd => by
        obtain ⟨w, hw', rfl⟩ := List.mem_map.mp hd
        refine ⟨_, rfl, EP_pure ?_⟩
        obtain ⟨r1, r2⟩ := RS_KN w
        have hp' := hp w hw'
        rw [r2] at hp'
        obtain ⟨d, hd'⟩ := Option.isSome_iff_exists.mp (show (sfind KN w).isSome = true by simpa using hp')
        have hG2 : (setV G 5 (.str w))[1]? = some (some (.loc n)) := by
          unfold setV
          rw [List.getElem?_set_ne (by decide)]; exact hG1
        have hG3 : (setV G 5 (.str w))[5]? = some (some (.str w)) := by
          unfold setV
          rw [List.getElem?_set_self hG]
        simp only [EP_idx, EP_var, hG2, hG3]
        simp [idx_dks hn, hd', r1]
      rw [this]
      simp [Function.comp_def]
    have hall : ∀ d ∈ W.map RS, d.ok = true ∧ d.fit 1001 = true := fun d hd => by
      obtain ⟨w, hw', rfl⟩ := List.mem_map.mp hd
      exact RS_ok (hw w hw').1 (hw w hw').2
    have hok : (D.tup (W.map RS)).ok = true := by
      rw [ok_tup, okL_all, List.all_eq_true]
      exact fun d hd => (hall d hd).1
    have hfit : (D.tup (W.map RS)).fit lineN = true := by
      simp only [D.fit, Bool.and_eq_true, decide_eq_true_eq]
      refine ⟨by simp [lineN]; omega, ?_⟩
      rw [fitL_all, List.all_eq_true]
      exact fun d hd => fit_le (by simp [lineN]) _ (hall d hd).2
    have e1 := notice_eq (k := k) (S := S') h.toHNotS hok hfit
    refine SP_cons.mpr (SP_set.mpr ?_)
    have hw0 : wipeE [some (.str x), some (.loc n), some (.lst (W.map .str)), none, a, b] [5] = [some (.str x), some (.loc n), some (.lst (W.map .str)), none, a, none] := rfl
    by_cases hm : mNotice (.tup (W.map RS)) = true
    · rw [hm] at e1
      simp only [hm, if_true] at hTR
      simp [-Bool.exists_bool, hw0, hc, setV, e1, hTR]
    · rw [Bool.eq_false_iff.mpr hm] at e1
      rw [if_neg hm] at hTR
      simp [-Bool.exists_bool, hw0, hc, setV, e1, hTR]
  · rintro y xs G S' ⟨rfl, pre, ws, a, b, e, eW, hp, rfl⟩
    obtain ⟨w, ws, rfl⟩ : ∃ w l, ws = w :: l := by
      cases ws with
      | nil => cases e
      | cons w l => exact ⟨w, l, rfl⟩
    rw [itemsE_cons] at e
    cases e
    refine ⟨_, rfl, ?_⟩
    obtain ⟨r1, r2⟩ := RS_KN w
    by_cases hno : isNone (RS w) = true
    · have hs : (sfind KN w).isSome = false := by rw [hno] at r2; simpa using r2.symm
      have hrd : rd W 0 [] = .inl (pre.length + 1) := by
        have key : ∀ {ps : List Str} {i : Nat} {acc : List D}, (∀ v ∈ ps, isNone (RS v) = false) → rd (ps ++ w :: ws) i acc = .inl (i + ps.length + 1) := by
          intro ps
          induction ps with
          | nil => intro i acc _; simp [rd, hno]
          | cons v ps ih =>
            intro i acc hv
            simp only [List.cons_append, rd, hv v (by simp), Bool.false_eq_true, if_false]
            rw [ih fun u hu => hv u (by simp [hu])]
            simp; omega
        rw [eW, key hp]
        simp
      rw [hrd] at hTR
      simp [-Bool.exists_bool, setV, setVs, cmp_snin hn, hs]
      exact hTR.symm
    · have hs : (sfind KN w).isSome = true := by
        rw [Bool.eq_false_iff.mpr hno] at r2; simpa using r2.symm
      simp [-Bool.exists_bool, setV, setVs, cmp_snin hn, hs]
      refine ⟨pre ++ [w], ws, by simp, by simp [eW], fun v hv => ?_⟩
      rcases List.mem_append.mp hv with hv | hv
      · exact hp v hv
      · rw [List.mem_singleton.mp hv]; exact Bool.eq_false_iff.mpr hno
end
end NW
end
section
/- The law's word of a sign; a text with something otherwise. -/
namespace NW
open PySem TL
section
variable {T : Nat → Option FD} {S : Store}
theorem Cl.w3 (c : Cl) : ∃ (a e : Str) (b : D) (y : Str), c.d = .tup [.str a, b, .str e] ∧ a.length ≤ 10 ∧ y.length ≤ 10 ∧ e.length ≤ 10 ∧ (∀ S, callB .str S [b] = some (.str y)) ∧ a ++ "-" ++ y ++ "-" ++ e = (Sg.cl c).w := by
  cases c with
  | pr w s => exact ⟨_, _, _, mk1 s, rfl, by cases w <;> decide +kernel, by cases s <;> decide +kernel, by cases s <;> decide +kernel, fun _ => rfl, by cases w <;> cases s <;> decide +kernel⟩
  | alln s => exact ⟨_, _, _, mk1 s, rfl, by decide +kernel, by cases s <;> decide +kernel, by cases s <;> decide +kernel, fun _ => rfl, by cases s <;> decide +kernel⟩
  | has n m =>
    have hl : (n3 n).natAbs.log2 < 1920 := by
      revert n; decide
    refine ⟨_, _, _, dg n, rfl, by decide +kernel, by revert n; decide +kernel, by cases m <;> decide +kernel, fun S => by rw [str_int, if_pos hl]; rfl, ?_⟩
    clear hl
    revert n
    cases m <;> decide +kernel
theorem wordof_ok (h : HL8 T) {k : Nat} (g : Sg) : callN T (k + 1) 127 [g.d] S = .ok (.str g.w) S := by
  refine EP_pure (EP_call h.h127 rfl rfl ?_)
  cases g with
  | cl c =>
    obtain ⟨a, e, b, y, e1, l1, l2, l3, e2, e3⟩ := c.w3
    have e0 : ("-" : Str).length = 1 := by decide +kernel
    have b1 : ∀ S, binOp .Add S (.str a) (.str "-") = some (.str (a ++ "-")) := fun S => bin_str_ok (by omega)
    have b2 : ∀ S, binOp .Add S (.str (a ++ "-")) (.str y) = some (.str (a ++ "-" ++ y)) := fun S => bin_str_ok (by rw [Str.length_append]; omega)
    have b3 : ∀ S, binOp .Add S (.str (a ++ "-" ++ y)) (.str "-") = some (.str (a ++ "-" ++ y ++ "-")) := fun S => bin_str_ok (by rw [Str.length_append, Str.length_append]; omega)
    have b4 : ∀ S, binOp .Add S (.str (a ++ "-" ++ y ++ "-")) (.str e) = some (.str (a ++ "-" ++ y ++ "-" ++ e)) := fun S => bin_str_ok (by rw [Str.length_append, Str.length_append, Str.length_append]; omega)
    have hd : (Sg.cl c).d = .tup [.str a, b, .str e] := e1
    rw [hd]
    simp [-Bool.exists_bool, -bin_str, f__law_word_of, b__law_word_of, e2, b1, b2, b3, b4]
    exact e3
  | jt j => simp [-Bool.exists_bool, f__law_word_of, b__law_word_of, Sg.d, Sg.w]
  | nt => simp [-Bool.exists_bool, f__law_word_of, b__law_word_of, Sg.d, Sg.w]
  | lp => simp [-Bool.exists_bool, f__law_word_of, b__law_word_of, Sg.d, Sg.w]
  | rp => simp [-Bool.exists_bool, f__law_word_of, b__law_word_of, Sg.d, Sg.w]
theorem comp_words {C : Calls} {f j : Nat} (hf : ∀ g : Sg, C f [g.d] S = .ok (.str g.w) S) {src : Src} (hst : src.stays S = true) {G : Env} (hj : j < G.length) : ∀ (r : List Sg) (acc : List D), acc.length + r.length ≤ 1000 →
    compGo (.name j) none (evE C (.call f (.cons (.var j) .nil))) src G (r.map Sg.d) acc S = .ok (.lst (acc ++ (r.map Sg.w).map .str)) S
  | [], acc, _ => by simp [compGo, hst]
  | g :: r, acc, ha => by
    have hlt : acc.length < lineN := by simp at ha; simp [lineN]; omega
    have he : evE C (.call f (.cons (.var j) .nil)) (setV G j g.d) S = .ok (.str g.w) S := EP_pure (by simp [setV, hj, hf g])
    simp only [List.map_cons, compGo, hst, hlt, decide_true, Bool.and_self, if_true, setTg, compTurn, he, noEx]
    rw [comp_words hf hst hj r _ (by simp at ha ⊢; omega)]
    simp
theorem cut_map {α β : Type} (f : α → β) (xs : List α) (l u : Option Int) : cutD (xs.map f) l u = (cutD xs l u).map f := by
  simp [cutD, List.map_drop, List.map_take]
theorem cut_sub {α : Type} {xs : List α} {l u : Option Int} {x : α} (h : x ∈ cutD xs l u) : x ∈ xs := List.mem_of_mem_drop (List.mem_of_mem_take h)
theorem cut_le {α : Type} {xs : List α} {l u : Option Int} : (cutD xs l u).length ≤ xs.length := by
  simp [cutD]; omega
def SGN : List Str := [" ", "-", "a", "b", "1", "4", "", "not ", " and", "(", ")", "has-1-a", " ( ", "no-b-a", "02"]
theorem SGN_facts : SGN.all (fun y => ascB y && decide (y.length ≤ 20)) = true := by decide +kernel
theorem KN_keys : (KN.map (·.1)).all (fun y => ascB y && decide (y.length ≤ 20)) = true := by decide +kernel
def gdS (ys : List Str) : Prop := ∀ y ∈ ys, asc y ∧ y.length ≤ 1000
theorem gdS_by {ys : List Str} (h : ys.all (fun y => ascB y && decide (y.length ≤ 20)) = true) : gdS ys := fun y hy => by
  have := List.all_eq_true.mp h y hy
  rw [Bool.and_eq_true, decide_eq_true_eq] at this
  exact ⟨asc_by this.1, by omega⟩
theorem bent_ok (h : HL8 T) {k n p : Nat} {x : Str} (hk : 3 ≤ k) (ha : asc x) (hl : x.length ≤ 1000) (hs : Sr p S) (hn : S[n]? = some (.dks false KN)) (hne : n ≠ p) :
    EP (callN T k 130 [.loc p, .str x, .loc n] S) (fun d S' => (∃ y, d = .str y ∧ asc y ∧ y.length ≤ 8000000) ∧ Up p S S') := by
  refine EP_callB h.h130 (by omega) rfl rfl ?_
  unfold f__law_bent_k08 b__law_bent_k08
  have hnl : n < S.length := (List.getElem?_eq_some_iff.mp hn).1
  obtain ⟨hw, hwn⟩ := words_good ha hl
  obtain ⟨hwne, _, _⟩ := split_facts (x := x) blank.1 blank.2.1
  have hbl : (" " : Str).length = 1 := by decide +kernel
  refine SP_cons.mpr (SP_set.mpr ?_)
  simp [-SP_cons, setV, lineN]
  refine SP_cons.mpr (SP_ife.mpr ?_)
  simp [-SP_cons, -Bool.exists_bool]
  refine EP.to (draw_B h.toHSrc (by omega) hs (m := 2) (by decide) (by decide)) fun d S1 ⟨⟨r, hr, g1, g2⟩, u1⟩ => ?_
  subst hr
  have hn1 : S1[n]? = some (.dks false KN) := by rw [u1.old n hnl hne]; exact hn
  by_cases h0 : r = 0
  · subst h0
    have hd := blank.2.2
    have hxl : x.length + 2 ≤ lineN := by simp [lineN]; omega
    simp [-SP_cons, -Bool.exists_bool]
    refine SP_cons.mpr (SP_set.mpr ?_)
    simp [-SP_cons, hd, hxl, setV]
    generalize Txt.split x " " = W at *
    have hW : W.length ≠ 0 := fun z => hwne (List.length_eq_zero_iff.mp z)
    refine SP_cons.mpr (SP_set.mpr ?_)
    simp [-SP_cons]
    refine EP.to (draw_B h.toHSrc (by omega) u1.sr (m := W.length) (by omega) (by omega)) fun d S2 ⟨⟨a, hr, g3, g4⟩, u2⟩ => ?_
    subst hr
    have hn2 : S2[n]? = some (.dks false KN) := by rw [u2.old n (Nat.lt_of_lt_of_le hnl u1.len) hne]; exact hn1
    simp [-SP_cons, setV]
    refine SP_cons.mpr (SP_set.mpr ?_)
    have hsd := sorted_dks hn2 (by rw [KN_facts.1]; decide)
    have hld := len_dks hn2
    rw [KN_facts.1] at hld
    simp [-SP_cons, hsd, hld, lineN]
    refine EP.to (draw_B h.toHSrc (by omega) u2.sr (m := 24) (by decide) (by decide)) fun d S3 ⟨⟨b, hr, g5, g6⟩, u3⟩ => ?_
    subst hr
    simp [-SP_cons, lineN]
    rw [cut_map, cut_map]
    refine EP.to (choice_B h.toHSrc (by omega) u3.sr (by simp) (by simp)) fun d S4 ⟨hd4, u4⟩ => ?_
    obtain ⟨ys, rfl, hys, hyl⟩ : ∃ ys : List Str, d = .lst (ys.map .str) ∧ gdS ys ∧ ys.length ≤ 100 := by
      simp only [List.mem_cons, List.not_mem_nil, or_false] at hd4
      rcases hd4 with rfl | rfl | rfl | rfl
      · exact ⟨[], rfl, fun y hy => by simp at hy, by simp⟩
      · refine ⟨_, rfl, fun y hy => ?_, ?_⟩
        · have hm := cut_sub (cut_sub hy)
          have hm : y ∈ KN.map (·.1) := by
            unfold sortS at hm
            exact List.mem_mergeSort.mp hm
          exact gdS_by KN_keys y hm
        · refine Nat.le_trans cut_le (Nat.le_trans cut_le ?_)
          unfold sortS
          rw [List.length_mergeSort, List.length_map, KN_facts.1]
          decide
      · exact ⟨["and", "all-a-b"], rfl, gdS_by (by decide +kernel), by simp⟩
      · exact ⟨["x"], rfl, gdS_by (by decide +kernel), by simp⟩
    simp [-SP_cons, setV]
    refine SP_cons.mpr (SP_ret'.mpr ?_)
    have c1 := cut_le (xs := W) (l := none) (u := some a)
    have m1 : ∀ w ∈ cutD W none (some a), asc w ∧ w.length ≤ 1000 := fun w hm => hw w (cut_sub hm)
    simp [lineN, cut_map]
    generalize cutD W none (some a) = W1 at *
    refine ⟨_, ⟨by omega, rfl⟩, ?_⟩
    refine EP.to (draw_B h.toHSrc (by omega) u4.sr (m := 2) (by decide) (by decide)) fun d S5 ⟨⟨r5, hr, g7, g8⟩, u5⟩ => ?_
    subst hr
    have c2 := cut_le (xs := W) (l := some (a + r5)) (u := none)
    have m2 : ∀ w ∈ cutD W (some (a + r5)) none, asc w ∧ w.length ≤ 1000 := fun w hm => hw w (cut_sub hm)
    simp [lineN, cut_map]
    generalize cutD W (some (a + r5)) none = W2 at *
    have hZ : gdS (W1 ++ (ys ++ W2)) := fun w hw => by
      rcases List.mem_append.mp hw with hw | hw
      · exact m1 w hw
      rcases List.mem_append.mp hw with hw | hw
      · exact hys w hw
      · exact m2 w hw
    have hjl := join_len (y := " ") (ps := W1 ++ (ys ++ W2)) (n := 1000) fun w hw => (hZ w hw).2
    have hjl2 := join_le (y := " ") (ps := W1 ++ (ys ++ W2))
    have hlen : (W1 ++ (ys ++ W2)).length ≤ 2200 := by simp; omega
    have e1 : W1.map D.str ++ (ys.map D.str ++ W2.map D.str) = (W1 ++ (ys ++ W2)).map D.str := by simp
    rw [hbl] at hjl hjl2
    have hb : (W1 ++ (ys ++ W2)).length * (1000 + 1) ≤ 2200 * 1001 := Nat.mul_le_mul_right _ hlen
    refine ⟨_, ⟨by simp only [List.length_append] at hlen; omega, rfl⟩, ?_⟩
    have hj : joinD S5 " " (.lst (W1.map D.str ++ (ys.map D.str ++ W2.map D.str))) = some (.str (Txt.join " " (W1 ++ (ys ++ W2)))) := by
      rw [e1, join_lst, allStr_map, Option.bind_some, if_pos (by rw [hbl]; omega)]
    exact ⟨_, hj, ⟨_, rfl, asc_join (asc_by (by decide +kernel)) fun q hq => (hZ q hq).1, by omega⟩, ((((u1.trans u2).trans u3).trans u4).trans u5)⟩
  · have h0' : (r == 0) = false := beq_false_of_ne h0
    simp [-SP_cons, -Bool.exists_bool, h0']
    refine SP_cons.mpr (SP_set.mpr ?_)
    have hxl : x.length ≤ 16777216 := by omega
    simp [-SP_cons, -Bool.exists_bool, lineN, hxl]
    refine EP.to (draw_B h.toHSrc (by omega) u1.sr (m := (x.length : Int) + 1) (by omega) (by omega)) fun d S2 ⟨⟨a, hr, g3, g4⟩, u2⟩ => ?_
    subst hr
    simp [-SP_cons, setV]
    refine SP_cons.mpr (SP_ret'.mpr ?_)
    simp [lineN, hxl]
    refine EP.to (choice_B h.toHSrc (by omega) u2.sr (by simp) (by simp)) fun d S3 ⟨hd3, u3⟩ => ?_
    obtain ⟨y, rfl, hy1, hy2⟩ : ∃ y : Str, d = .str y ∧ asc y ∧ y.length ≤ 1000 := by
      have hd3 : d ∈ SGN.map D.str := hd3
      obtain ⟨y, hy, rfl⟩ := List.mem_map.mp hd3
      exact ⟨y, rfl, gdS_by SGN_facts y hy⟩
    have c1 : (L2.cutS x none (some a)).length ≤ x.length := L2.cutS_length _ _ _
    have a1 := asc_cut ha none (some a)
    have b1 : ∀ S, binOp .Add S (.str (L2.cutS x none (some a))) (.str y) = some (.str (L2.cutS x none (some a) ++ y)) := fun S => by rw [bin_str, if_pos (by simp [lineN]; omega)]
    simp [-bin_str, b1]
    refine EP.to (draw_B h.toHSrc (by omega) u3.sr (m := 3) (by decide) (by decide)) fun d S4 ⟨⟨r4, hr, g5, g6⟩, u4⟩ => ?_
    subst hr
    have c2 : (L2.cutS x (some (a + r4)) none).length ≤ x.length := L2.cutS_length _ _ _
    have a2 := asc_cut ha (some (a + r4)) none
    have l1 : (L2.cutS x none (some a) ++ y).length = (L2.cutS x none (some a)).length + y.length := Str.length_append _ _
    have b2 : ∀ S, binOp .Add S (.str (L2.cutS x none (some a) ++ y)) (.str (L2.cutS x (some (a + r4)) none)) = some (.str (L2.cutS x none (some a) ++ y ++ L2.cutS x (some (a + r4)) none)) := fun S => by rw [bin_str, if_pos (by simp [lineN]; omega)]
    simp [-bin_str, lineN, hxl, b2]
    refine ⟨⟨asc_app (asc_app a1 hy1) a2, ?_⟩, ((u1.trans u2).trans u3).trans u4⟩
    rw [Str.length_append]
    omega
end
end NW
end
section
/- The law k08: its turns. -/
namespace NW
open PySem TL
mutual
theorem eqv_self : ∀ d : D, d.ok = true → D.eqv d d = true
  | .non, _ => by simp only [D.eqv]
  | .bl _, _ => by simp only [D.eqv, beq_self_eq_true]
  | .int _, _ => by simp only [D.eqv, beq_self_eq_true]
  | .str _, _ => by simp only [D.eqv, beq_self_eq_true]
  | .tup ds, h => by simp only [D.eqv]; exact eqvL_self ds (by simpa only [D.ok] using h)
  | .lst ds, h => by simp only [D.eqv]; exact eqvL_self ds (by simpa only [D.ok] using h)
  | .loc _, h => by simp only [D.ok] at h; cases h
  | .fn _, h => by simp only [D.ok] at h; cases h
  | .scr _, h => by simp only [D.ok] at h; cases h
theorem eqvL_self : ∀ ds : List D, D.okL ds = true → D.eqvL ds ds = true
  | [], _ => by simp only [D.eqvL]
  | d :: ds, h => by
    simp only [D.okL, Bool.and_eq_true] at h
    simp only [D.eqvL, eqv_self d h.1, eqvL_self ds h.2, Bool.and_self]
end
theorem eqOk_self {d : D} (h : d.ok = true) (hd : d.depth ≤ 100) : eqOk d d = true := by
  unfold eqOk
  rw [h, Nat.min_self, decide_eq_true hd]; rfl
theorem ne_self {S : Store} {d : D} (h : d.ok = true) (hd : d.depth ≤ 100) : cmpOp .NotEq S d d = some false := by
  rw [cmp_ne, flat_ok h, eqOk_self h hd, eqv_self d h]; rfl
theorem eq_self {S : Store} {d : D} (h : d.ok = true) (hd : d.depth ≤ 100) : cmpOp .Eq S d d = some true := by
  rw [cmp_eq, flat_ok h, eqOk_self h hd, eqv_self d h]; rfl
theorem RS_dep (x : Str) : (RS x).depth ≤ 1 := by
  rcases RS_sign x with e | ⟨g, _, e⟩
  · rw [e]; simp [D.depth]
  · rw [e]; exact g.ok.2.2.1
theorem TR_ok {x : Str} (ha : asc x) (hl : x.length ≤ 1000) : (TR x).ok = true ∧ (TR x).depth ≤ 100 := by
  obtain ⟨hw, hn⟩ := words_good ha hl
  unfold TR
  generalize Txt.split x " " = W at *
  cases hr : rd W 0 [] with
  | inl i => exact ⟨rfl, by simp [D.depth]⟩
  | inr ds =>
    dsimp only
    split
    · obtain ⟨h1, h2⟩ := rd_facts hw (fun d hd => by simp at hd) ds hr
      refine ⟨by rw [ok_tup, okL_all, List.all_eq_true]; exact fun d hd => (h1 d hd).1, ?_⟩
      have key : ∀ {ws : List Str} {i : Nat} {acc : List D}, (∀ d ∈ acc, d.depth ≤ 1) → ∀ ds, rd ws i acc = .inr ds → ∀ d ∈ ds, d.depth ≤ 1 := by
        intro ws
        induction ws with
        | nil => intro i acc ha ds e; simp only [rd] at e; cases e; exact ha
        | cons w ws ih =>
          intro i acc ha ds e
          simp only [rd] at e
          split at e
          · cases e
          · exact ih (fun d hd => by
              rcases List.mem_append.mp hd with hd | hd
              · exact ha d hd
              · rw [List.mem_singleton.mp hd]; exact RS_dep w) ds e
      have hk := key (fun d hd => by simp at hd) ds hr
      have hL : ∀ l : List D, (∀ d ∈ l, d.depth ≤ 1) → D.depthL l ≤ 1 := by
        intro l
        induction l with
        | nil => intro _; simp [D.depthL]
        | cons d l ih =>
          intro h
          have h1 := h d (by simp)
          have h2 := ih fun e he => h e (by simp [he])
          simp only [D.depthL]; omega
      have := hL ds hk
      simp only [D.depth]; omega
    · exact ⟨rfl, by simp [D.depth]⟩
theorem TR_row {row : List Sg} (hne : row ≠ []) (hm : mNotice (.tup (row.map Sg.d)) = true) : TR (rowT row) = .tup (row.map Sg.d) := by
  unfold TR rowT
  rw [split_join blank.1 blank.2.1 (by simpa using hne) (fun p hp => by
    obtain ⟨g, _, rfl⟩ := List.mem_map.mp hp
    exact g.w_facts.2.2)]
  rw [rd_all (fun w hw => by
    obtain ⟨g, _, rfl⟩ := List.mem_map.mp hw
    rw [RS_w]; exact g.d_non)]
  have e : (row.map Sg.w).map RS = row.map Sg.d := by
    rw [List.map_map]
    exact List.map_congr_left fun g _ => RS_w g
  simp only [List.nil_append, e, hm, if_true]
theorem rowT_facts (row : List Sg) (hl : row.length ≤ 16) : asc (rowT row) ∧ (rowT row).length ≤ 400 := by
  refine ⟨asc_join (asc_by (by decide +kernel)) fun p hp => ?_, ?_⟩
  · obtain ⟨g, _, rfl⟩ := List.mem_map.mp hp
    exact asc_by g.w_facts.1
  · have h1 := row_sum row
    have h2 := join_le (y := " ") (ps := row.map Sg.w)
    unfold rowT
    omega
theorem cut400 (z : Str) : (L2.cutS z none (some 400)).length ≤ 400 := by
  show (((z.cps.toList.drop (HT.sIx z.length 0 none)).take (HT.sIx z.length z.length (some 400) - HT.sIx z.length 0 none)).toArray).size ≤ 400
  have e : HT.sIx z.length z.length (some 400) = min 400 z.length := by
    rw [← slIx_eq]
    exact slIx_nat (i := 400)
  rw [List.size_toArray, List.length_take, e]
  omega
theorem cl_notice (c : Cl) : mNotice (.tup [c.d]) = true := by
  cases c with
  | pr w s => cases w <;> cases s <;> decide +kernel
  | alln s => cases s <;> decide +kernel
  | has n m => revert n; cases m <;> decide +kernel
def ROWS : List Str := ["", "and", "all-a-b and", "all-a-a", "has-4-a", "has-01-a", "all-a-b  and all-b-a", "all-a-b all-b-a", "All-a-b", "( all-a-b", "not", " all-a-b", "all-a-b ", "some-b-a or not-", "least-1-a", "1-has-a"]
theorem ROWS_due : ROWS.map TR = [.int 1, .int 2, .int 3, .int 1, .int 1, .int 1, .int 2, .int 3, .int 1, .int 3, .int 2, .int 1, .int 2, .int 3, .int 1, .int 1] :=
  D.sameL_eq _ _ (by decide +kernel)
theorem ROWS_ok : ROWS.all (fun y => ascB y && decide (y.length ≤ 20)) = true := by decide +kernel
abbrev bTurn : Ss := .cons (.set 8 (.sl (.call 130 (.cons (.var 5) (.cons (.ite (.cmp .Eq (.bin .Mod (.var 9) (.int 3)) (.int 0)) (.var 7) (.var 8)) (.cons (.var 1) (.nil))))) (.none) (.some (.int 400)))) (.cons (.ife (.cmp .NotEq (.call 131 (.cons (.var 8) (.nil))) (.call 129 (.cons (.var 8) (.cons (.var 1) (.nil))))) (.cons (.ret (.bl false)) (.nil)) (.nil)) (.nil))
abbrev bOdd : Ss := .cons (.ife (.cmp .NotEq (.call 131 (.cons (.var 10) (.nil))) (.int 0)) (.cons (.ret (.bl false)) (.nil)) (.nil)) (.nil)
abbrev bKey : Ss := .cons (.set 11 (.idx (.var 1) (.var 3))) (.cons (.ife (.and (.cons (.isi (.var 11) .tuple) (.cons (.cmp .NotEq (.tup (.cons (.call 126 (.cons (.var 3) (.nil))) (.cons (.call 124 (.cons (.tup (.cons (.var 11) (.nil))) (.nil))) (.nil)))) (.tup (.cons (.tup (.cons (.var 11) (.nil))) (.cons (.var 3) (.nil))))) (.nil)))) (.cons (.ret (.bl false)) (.nil)) (.nil)) (.nil))
section
variable {T : Nat → Option FD} {S : Store}
theorem turns_ok (h : HL8 T) {k n p : Nat} (hk : 40 ≤ k) {S0 : Store} {g0 g2 g3 g4 g6 g10 g11 : Option D} {z : Str} (hz : asc z) (hzl : z.length ≤ 400) (hne : n ≠ p) {src : Src} (hst : ∀ S, src.stays S = true) :
    ∀ (l : List Nat) (S : Store) (y : Str) (g9 : Option D), Up p S0 S → S[n]? = some (.dks false KN) → asc y → y.length ≤ 400 →
    SP (forGo (.name 9) (evSs (callN T k) bTurn) src (l.map fun i => D.int (i : Nat)) [g0, some (.loc n), g2, g3, g4, some (.loc p), g6, some (.str z), some (.str y), g9, g10, g11] S)
      (fun G S' => Up p S0 S' ∧ S'[n]? = some (.dks false KN) ∧ ∃ y g9, G = [g0, some (.loc n), g2, g3, g4, some (.loc p), g6, some (.str z), some (.str y), g9, g10, g11]) (fun _ _ => False) (fun _ _ => False)
  | [], S, y, g9, u, hn, hy, hyl => by
    refine SP_go0.mpr ⟨hst _, u, hn, y, g9, rfl⟩
  | i :: l, S, y, g9, u, hn, hy, hyl => by
    refine SP_go1.mpr ⟨hst _, _, rfl, ?_⟩
    refine SP_cons.mpr (SP_set.mpr ?_)
    simp [-SP_cons, -Bool.exists_bool, setV]
    have go : ∀ w : Str, asc w → w.length ≤ 400 → EP (callN T k 130 [.loc p, .str w, .loc n] S) (fun d S1 => ∃ d_1, slOp S1 d none (some 400) = some d_1 ∧ ∃ v, d_1 = .str v ∧ asc v ∧ v.length ≤ 400 ∧ Up p S S1) := fun w hw hwl =>
      (bent_ok h (by omega) hw (by omega) u.sr hn hne).mono fun d S1 ⟨⟨v, e, h1, h2⟩, u1⟩ => by
        subst e
        exact ⟨_, by rw [sl_str', if_pos (by simp [lineN]; omega)], _, rfl, asc_cut h1 _ _, cut400 v, u1⟩
    have rest : ∀ (d : D) (S1 : Store), (∃ d_1, slOp S1 d none (some 400) = some d_1 ∧ ∃ v, d_1 = .str v ∧ asc v ∧ v.length ≤ 400 ∧ Up p S S1) → ∃ d_1, slOp S1 d none (some 400) = some d_1 ∧
        SP (evSs (callN T k) (.cons (.ife (.cmp .NotEq (.call 131 (.cons (.var 8) (.nil))) (.call 129 (.cons (.var 8) (.cons (.var 1) (.nil))))) (.cons (.ret (.bl false)) (.nil)) (.nil)) (.nil)) [g0, some (.loc n), g2, g3, g4, some (.loc p), g6, some (.str z), some d_1, some (.int (i : Nat)), g10, g11] S1)
          (fun G2 S2 => SP (forGo (.name 9) (evSs (callN T k) bTurn) src (l.map fun i => D.int (i : Nat)) G2 S2) (fun G S' => Up p S0 S' ∧ S'[n]? = some (.dks false KN) ∧ ∃ y g9, G = [g0, some (.loc n), g2, g3, g4, some (.loc p), g6, some (.str z), some (.str y), g9, g10, g11]) (fun _ _ => False) (fun _ _ => False)) (fun _ _ => False)
          (fun G S' => Up p S0 S' ∧ S'[n]? = some (.dks false KN) ∧ ∃ y g9, G = [g0, some (.loc n), g2, g3, g4, some (.loc p), g6, some (.str z), some (.str y), g9, g10, g11]) := by
      rintro d S1 ⟨d1, e1, v, rfl, hv, hvl, u1⟩
      refine ⟨_, e1, ?_⟩
      have hn1 : S1[n]? = some (.dks false KN) := by rw [u1.old n (List.getElem?_eq_some_iff.mp hn).1 hne]; exact hn
      obtain ⟨j, rfl⟩ : ∃ j, k = j + 37 := ⟨k - 37, by omega⟩
      have t1 := tried_str (k := j) (S := S1) h hv (by omega)
      have t2 := due_ok (k := j) (S := S1) h hn1 hv (by omega)
      obtain ⟨t3, t4⟩ := TR_ok hv (by omega : v.length ≤ 1000)
      have t5 := ne_self (S := S1) t3 t4
      simp [-Bool.exists_bool, t1, t2, t5]
      exact turns_ok h hk hz hzl hne hst l S1 v _ (u.trans u1) hn1 hv hvl
    by_cases hi : (i : Int) % 3 = 0
    · simp [-Bool.exists_bool, -SP_cons, hi]
      exact (go z hz hzl).mono fun d S1 q => rest d S1 q
    · have hi' : ((i : Int) % 3 == 0) = false := beq_false_of_ne hi
      simp [-Bool.exists_bool, -SP_cons, hi']
      exact (go y hy hyl).mono fun d S1 q => rest d S1 q
theorem odds_ok (h : HL8 T) {k : Nat} (hk : 40 ≤ k) {g0 g1 g2 g3 g4 g5 g6 g7 g8 g9 g11 : Option D} {src : Src} (hst : ∀ S, src.stays S = true) :
    ∀ (l : List D) (g10 : Option D), (∀ d ∈ l, d.ok = true ∧ isStr d = false) →
    SP (forGo (.name 10) (evSs (callN T k) bOdd) src l [g0, g1, g2, g3, g4, g5, g6, g7, g8, g9, g10, g11] S)
      (fun G S' => S' = S ∧ ∃ g10, G = [g0, g1, g2, g3, g4, g5, g6, g7, g8, g9, g10, g11]) (fun _ _ => False) (fun _ _ => False)
  | [], g10, _ => by refine SP_go0.mpr ⟨hst _, rfl, g10, rfl⟩
  | d :: l, g10, hl => by
    refine SP_go1.mpr ⟨hst _, _, rfl, ?_⟩
    obtain ⟨j, rfl⟩ : ∃ j, k = j + 37 := ⟨k - 37, by omega⟩
    obtain ⟨h1, h2⟩ := hl d (by simp)
    have t1 := tried_odd (k := j) (S := S) h h1 h2
    have t5 := ne_self (S := S) (d := .int 0) rfl (by simp [D.depth])
    simp [-Bool.exists_bool, setV, t1, t5]
    exact odds_ok h hk hst l _ fun e he => hl e (by simp [he])
theorem keys_ok (h : HL8 T) {k n : Nat} (hk : 40 ≤ k) (hn : S[n]? = some (.dks true KN)) {g0 g2 g4 g5 g6 g7 g8 g9 g10 : Option D} {src : Src} (hst : ∀ S, src.stays S = true) :
    ∀ (l : List Sg) (g3 g11 : Option D),
    SP (forGo (.name 3) (evSs (callN T k) bKey) src (l.map fun g => D.str g.w) [g0, some (.loc n), g2, g3, g4, g5, g6, g7, g8, g9, g10, g11] S)
      (fun G S' => S' = S ∧ ∃ g3 g11, G = [g0, some (.loc n), g2, g3, g4, g5, g6, g7, g8, g9, g10, g11]) (fun _ _ => False) (fun _ _ => False)
  | [], g3, g11 => by refine SP_go0.mpr ⟨hst _, rfl, g3, g11, rfl⟩
  | g :: l, g3, g11 => by
    refine SP_go1.mpr ⟨hst _, _, rfl, ?_⟩
    have i1 := (idx_dks hn (x := g.w)).trans (KN_w g)
    have next := fun a b => keys_ok h hk hn (g0 := g0) (g2 := g2) (g4 := g4) (g5 := g5) (g6 := g6) (g7 := g7) (g8 := g8) (g9 := g9) (g10 := g10) hst l a b
    by_cases ht : isTup g.d = true
    · obtain ⟨c, rfl⟩ : ∃ c, g = .cl c := by
        rw [Sg.tup] at ht
        cases g <;> first | exact ⟨_, rfl⟩ | cases ht
      obtain ⟨j, rfl⟩ : ∃ j, k = j + 37 := ⟨k - 37, by omega⟩
      have i2 := isi_tup' (S := S) (Sg.cl c).ok.1
      rw [ht] at i2
      have hm := cl_notice c
      have hr : TR (Sg.cl c).w = .tup [c.d] := TR_row (row := [.cl c]) (by simp) hm
      have hok : (D.tup [c.d]).ok = true := by simp [D.ok, D.okL, (Sg.cl c).ok.1, c.ok.1]
      have hfit : (D.tup [c.d]).fit lineN = true := by
        simp only [D.fit, D.fitL, Bool.and_eq_true, decide_eq_true_eq]
        exact ⟨by simp [lineN], fit_le (by simp [lineN]) _ c.ok.2.1, trivial⟩
      have t1 := read_ok (k := j + 1) (S := S) h.toHTxt (asc_by (Sg.cl c).w_facts.1) (by have := (Sg.cl c).w_facts.2.1; omega)
      rw [hr] at t1
      have t2 := notice_text_ok (k := j) (S := S) h.toHTxt (row := [.cl c]) (by simp) hok hfit hm
      have e2 : rowT [Sg.cl c] = (Sg.cl c).w := rfl
      rw [e2] at t2
      have hs := asc_ok (asc_by (Sg.cl c).w_facts.1)
      have t5 := ne_self (S := S) (d := .tup [.tup [c.d], .str (Sg.cl c).w]) (by simp [D.ok, D.okL, c.ok.1, hs]) (by simp [D.depth, D.depthL, c.ok.2.2.1])
      have hd : (Sg.cl c).d = c.d := rfl
      rw [hd] at i1 i2
      simp [-Bool.exists_bool, setV, i1, i2, t1, ansR, lineN, t5]
      simp only [List.map_cons, List.map_nil, hd] at t2
      simp [-Bool.exists_bool, t2, t5]
      exact next _ _
    · have i2 := isi_tup' (S := S) g.ok.1
      rw [Bool.eq_false_iff.mpr ht] at i2
      simp [-Bool.exists_bool, setV, i1, i2]
      exact next _ _
end
end NW
end
section
/- The law k08. -/
namespace NW
open PySem TL
abbrev bIter : Ss := .cons (.set 5 (.call 13 (.cons (.var 0) (.cons (.var 2) (.nil))))) (.cons (.set 6 (.call 18 (.cons (.var 5) (.cons (.int 4) (.nil))))) (.cons (.set 7 (.join (.str " ") (.comp (.call 127 (.cons (.var 11) (.nil))) [11] (.name 11) (.e (.var 6)) (.none)))) (.cons (.ife (.or (.cons (.cmp .NotEq (.call 124 (.cons (.var 6) (.nil))) (.var 7)) (.cons (.cmp .NotEq (.call 126 (.cons (.var 7) (.nil))) (.var 6)) (.nil)))) (.cons (.ret (.bl false)) (.nil)) (.nil)) (.cons (.set 8 (.var 7)) (.cons (.for_ (.name 9) (.rng (.int 20)) bTurn) (.cons (.for_ (.name 10) (.e (.lst (.cons (.non) (.cons (.int 5) (.cons (.tup (.cons (.var 7) (.nil))) (.cons (.lst (.cons (.var 7) (.nil))) (.cons (.bl true) (.cons (.var 6) (.nil))))))))) bOdd) (.nil)))))))
section
variable {T : Nat → Option FD} {S : Store}
theorem iter_ok (h : HL8 T) {k n i : Nat} (hk : 40 ≤ k) (hi : i < 100) {ns : List Int} (hn : S[n]? = some (.dks false KN)) {g3 g4 g5 g6 g7 g8 g9 g10 g11 : Option D} :
    SP (evSs (callN T k) bIter [some (.scr ns), some (.loc n), some (.int (i : Nat)), g3, g4, g5, g6, g7, g8, g9, g10, g11] S)
      (fun G S' => S'[n]? = some (.dks false KN) ∧ ∃ g2 g3 g4 g5 g6 g7 g8 g9 g10 g11, G = [some (.scr ns), some (.loc n), g2, g3, g4, g5, g6, g7, g8, g9, g10, g11]) (fun _ _ => False) (fun _ _ => False) := by
  have hnl : n < S.length := (List.getElem?_eq_some_iff.mp hn).1
  refine SP_cons.mpr (SP_set.mpr ?_)
  simp [-SP_cons]
  have hsrc := source_ok h.toHSrc (k := k - 1) (ns := ns) (i := i) (S := S) (by omega)
  rw [show k - 1 + 1 = k by omega] at hsrc
  refine hsrc.mono fun d S1 ⟨e, l1, o1, sr⟩ => ?_
  subst e
  have hn1 : S1[n]? = some (.dks false KN) := by rw [o1 n hnl]; exact hn
  have hne : n ≠ S.length := by omega
  simp [-SP_cons, setV]
  refine SP_cons.mpr (SP_set.mpr ?_)
  simp [-SP_cons]
  refine EP.to (notice_ok h.toHGen (k := k) (m := 4) (by omega) (by decide) (by decide) sr) fun d S2 ⟨⟨nt, e, n1, n2, n3⟩, u2⟩ => ?_
  subst e
  have hn2 : S2[n]? = some (.dks false KN) := by rw [u2.old n (by omega) hne]; exact hn1
  obtain ⟨p1, p2, p3⟩ := nt.plain n1 n2 n3
  have hm := nt.taken n1 n2 n3
  have hl2 := nt.len2
  have hlen : nt.row.length ≤ 16 := by omega
  have hne2 : nt.row ≠ [] := by
    intro z
    have := one_le nt
    rw [z] at this; simp at this
  have hd : nt.d = .tup (nt.row.map Sg.d) := rfl
  obtain ⟨f1, f2⟩ := rowT_facts nt.row hlen
  simp [-SP_cons, setV]
  refine SP_cons.mpr (SP_set.mpr ?_)
  have hc : compGo (.name 11) none (evE (callN T k) (.call 127 (.cons (.var 11) .nil))) ⟨nt.row.map Sg.d, none⟩ (wipeE [some (.scr ns), some (.loc n), some (.int (i : Nat)), g3, g4, some (.loc S.length), some (.tup (nt.row.map Sg.d)), g7, g8, g9, g10, g11] [11]) (nt.row.map Sg.d) [] S2 = .ok (.lst ((nt.row.map Sg.w).map .str)) S2 := by
    have := comp_words (C := callN T k) (f := 127) (j := 11) (S := S2) (fun g => by
      have := wordof_ok (k := k - 1) (S := S2) h g
      rwa [show k - 1 + 1 = k by omega] at this) (src := ⟨nt.row.map Sg.d, none⟩) rfl (G := wipeE [some (.scr ns), some (.loc n), some (.int (i : Nat)), g3, g4, some (.loc S.length), some (.tup (nt.row.map Sg.d)), g7, g8, g9, g10, g11] [11]) (by simp [wipeE]) nt.row [] (by simp; omega)
    simpa using this
  have hsum := row_sum nt.row
  have hs' : ((nt.row.map Sg.w).map (·.length)).sum + (nt.row.map Sg.w).length * (" " : Str).length ≤ 16777216 := by omega
  rw [hd]
  simp [-SP_cons, -List.map_map, -List.length_map, hc, hs']
  obtain ⟨j, rfl⟩ : ∃ j, k = j + 37 := ⟨k - 37, by omega⟩
  have hfit : (D.tup (nt.row.map Sg.d)).fit lineN = true := fit_le (by simp [lineN]) _ p2
  have t1 := notice_text_ok (k := j) (S := S2) h.toHTxt (row := nt.row) (by omega) p1 hfit hm
  have hTR := TR_row (row := nt.row) hne2 hm
  have t2 := read_ok (k := j + 1) (S := S2) h.toHTxt f1 (by omega)
  rw [hTR] at t2
  have hrow : Txt.join " " (nt.row.map Sg.w) = rowT nt.row := rfl
  rw [hrow]
  have t3 := ne_self (S := S2) (d := .str (rowT nt.row)) (by simp only [D.ok]; exact asc_ok f1) (by simp [D.depth])
  have t4 := ne_self (S := S2) (d := .tup (nt.row.map Sg.d)) p1 (by rw [hd] at p3; omega)
  refine SP_cons.mpr (SP_ife.mpr ?_)
  simp [-SP_cons, -Bool.exists_bool, setV, wipeE, t1, t2, t3, t4, ansR]
  refine SP_cons.mpr (SP_set.mpr ?_)
  simp [-SP_cons, setV]
  refine SP_cons.mpr (SP_for.mpr ?_)
  have hrng : rngSrc (.int 0) (.int 20) = some ⟨(List.range 20).map fun i => D.int (i : Nat), none⟩ := by
    simp [rngSrc, rngOk, rngD]
  simp only [EP_rng, EP_int, hrng, Option.some.injEq, exists_eq_left']
  refine SP.to (turns_ok h (k := j + 37) (by omega) (S0 := S2) f1 f2 hne (fun _ => rfl) (List.range 20) S2 _ _ (Up.refl u2.sr) hn2 f1 f2) ?_ (fun _ _ z => z.elim) (fun _ _ z => z.elim)
  rintro G S3 ⟨u3, hn3, y, g9', rfl⟩
  refine SP_cons.mpr (SP_for.mpr ?_)
  simp [-SP_cons, lineN]
  refine SP.to (odds_ok h (k := j + 37) (by omega) (fun _ => rfl) _ _ ?_) ?_ (fun _ _ z => z.elim) (fun _ _ z => z.elim)
  · intro d hd'
    simp only [List.mem_cons, List.not_mem_nil, or_false] at hd'
    have hs1 := asc_ok f1
    rcases hd' with rfl | rfl | rfl | rfl | rfl | rfl
    · exact ⟨rfl, rfl⟩
    · exact ⟨rfl, rfl⟩
    · exact ⟨by simp [D.ok, D.okL, hs1], rfl⟩
    · exact ⟨by simp [D.ok, D.okL, hs1], rfl⟩
    · exact ⟨rfl, rfl⟩
    · exact ⟨p1, rfl⟩
  · rintro G S4 ⟨rfl, g10', rfl⟩
    exact ⟨hn3, _, _, _, _, _, _, _, _, _, _, rfl⟩
theorem law8_ok (h : HL8 T) (h132 : Is T 132 f_law_k08) {k : Nat} {ns : List Int} (hk : 41 ≤ k) : EP (callN T k 132 [.scr ns] S) fun d _ => d = .bl true := by
  refine EP_callB h132 (by omega) rfl rfl ?_
  unfold f_law_k08 b_law_k08
  refine SP_cons.mpr (SP_set.mpr ?_)
  have hw := words_ok h.h128 (k := k - 2) (S := S)
  rw [show k - 2 + 1 = k - 1 by omega] at hw
  simp [-SP_cons, hw, setV]
  refine SP_cons.mpr (SP_for.mpr ?_)
  have hn0 : (S ++ [Ob.dks false KN])[S.length]? = some (.dks false KN) := by simp
  simp [-SP_cons]
  generalize hm : (if (10 : Int) < (ns.length : Int) then (10 : Int) else (ns.length : Int)) = m
  have hm1 : 0 ≤ m ∧ m ≤ 10 := by rw [← hm]; split <;> omega
  have hro : rngOk 0 (1 + m) = true := by
    unfold rngOk
    rw [decide_eq_true_eq]; omega
  have hrs : rngSrc (.int 0) (.int (1 + m)) = some ⟨(List.range (1 + m).toNat).map fun i => D.int (i : Nat), none⟩ := by
    simp [rngSrc, hro, rngD]
  have hri : rngD 0 (1 + m).toNat = (List.range (1 + m).toNat).map fun i => D.int (i : Nat) := by simp [rngD]
  refine ⟨_, ⟨hro, rfl⟩, ?_⟩
  rw [hri]
  refine SP_forGo (fun xs G S' => S'[S.length]? = some (.dks false KN) ∧ (∀ x ∈ xs, ∃ i : Nat, x = .int (i : Nat) ∧ i < 100) ∧ ∃ g2 g3 g4 g5 g6 g7 g8 g9 g10 g11, G = [some (.scr ns), some (.loc S.length), g2, g3, g4, g5, g6, g7, g8, g9, g10, g11]) (fun _ _ _ _ => rfl) ?_ ?_ _ _ _
    ⟨hn0, fun x hx => ?_, _, _, _, _, _, _, _, _, _, _, rfl⟩
  case refine_3 =>
    obtain ⟨i, hi, rfl⟩ := List.mem_map.mp hx
    have := List.mem_range.mp hi
    exact ⟨i, rfl, by omega⟩
  case refine_2 =>
    rintro x xs G S' ⟨hn, hx, g2, g3, g4, g5, g6, g7, g8, g9, g10, g11, rfl⟩
    obtain ⟨i, rfl, hi⟩ := hx x (by simp)
    refine ⟨_, rfl, SP.to (iter_ok h (k := k - 1) (n := S.length) (i := i) (by omega) hi hn) ?_ (fun _ _ z => z.elim) (fun _ _ z => z.elim)⟩
    rintro G S2 ⟨hn2, g2, g3, g4, g5, g6, g7, g8, g9, g10, g11, rfl⟩
    exact ⟨hn2, fun x hx' => hx x (by simp [hx']), _, _, _, _, _, _, _, _, _, _, rfl⟩
  rintro G S2 ⟨hn2, _, g2, g3, g4, g5, g6, g7, g8, g9, g10, g11, rfl⟩
  have hnl : S.length < S2.length := (List.getElem?_eq_some_iff.mp hn2).1
  refine SP_cons.mpr (SP_forK (n := S.length) (kvs := KN) rfl hn2 ?_)
  have hk1 : (KN.map fun p => D.str p.1) = Sg.all.map fun g => D.str g.w := by
    unfold KN
    rw [List.map_map]; rfl
  rw [hk1]
  have hn3 : (S2.set S.length (.dks true KN))[S.length]? = some (.dks true KN) := List.getElem?_set_self hnl
  refine SP.to (keys_ok h (k := k - 1) (n := S.length) (by omega) hn3 (fun _ => rfl) Sg.all _ _) ?_ (fun _ _ z => z.elim) (fun _ _ z => z.elim)
  rintro G S3 ⟨rfl, g3', g11', rfl⟩
  refine ⟨KN, hn3, ?_⟩
  refine SP_cons.mpr (SP_set.mpr ?_)
  simp [-SP_cons, setV, lineN]
  refine SP_cons.mpr (SP_set.mpr ?_)
  simp [-SP_cons, setV, lineN]
  refine SP_cons.mpr (SP_set.mpr ?_)
  simp [-SP_cons, setV, lineN]
  refine SP_cons.mpr (SP_ret'.mpr ?_)
  have hall := gdS_by ROWS_ok
  have hc : ∀ S' : Store, compGo (.name 8) none (evE (callN T (k - 1)) (.call 131 (.cons (.var 8) (.nil)))) ⟨ROWS.map .str, none⟩ (wipeE [some (.scr ns), some (.loc S.length), g2, g3', some (.lst (ROWS.map .str)), g5, g6, g7, g8, g9, g10, g11'] [8]) (ROWS.map .str) [] S' = .ok (.lst (ROWS.map TR)) S' := fun S' => by
    have := compGo_map (tg := .name 8) (elt := evE (callN T (k - 1)) (.call 131 (.cons (.var 8) (.nil)))) (G := wipeE [some (.scr ns), some (.loc S.length), g2, g3', some (.lst (ROWS.map .str)), g5, g6, g7, g8, g9, g10, g11'] [8]) (S := S') (xs := ROWS.map .str) (fun d => match d with | .str p => TR p | d => d) (by simp [ROWS, lineN]) fun d hd => by
      obtain ⟨w, hw', rfl⟩ := List.mem_map.mp hd
      refine ⟨_, rfl, EP_pure ?_⟩
      have t := tried_str (k := k - 38) (S := S') h (hall w hw').1 (hall w hw').2
      rw [show k - 38 + 37 = k - 1 by omega] at t
      simp [setV, wipeE, t]
    rw [this]
    simp [Function.comp_def]
  have hr : [D.str "", .str "and", .str "all-a-b and", .str "all-a-a", .str "has-4-a", .str "has-01-a", .str "all-a-b  and all-b-a", .str "all-a-b all-b-a", .str "All-a-b", .str "( all-a-b", .str "not", .str " all-a-b", .str "all-a-b ", .str "some-b-a or not-", .str "least-1-a", .str "1-has-a"] = ROWS.map .str := rfl
  rw [hr]
  simp [-List.map_map, hc, lineN, ROWS_due]
  refine eq_self ?_ ?_
  · decide +kernel
  · decide +kernel
end
end NW
end
section
set_option maxHeartbeats 0
namespace K08
open PySem NW
theorem hl : HL8 pg.T.fn where
  h0 := is_0
  h1 := is_1
  h2 := is_2
  h3 := is_3
  h4 := is_4
  h5 := is_5
  h6 := is_6
  h7 := is_7
  h8 := is_8
  h60 := is_60
  h122 := is_122
  h123 := is_123
  h124 := is_124
  h125 := is_125
  h126 := is_126
  h13 := is_13
  h14 := is_14
  h15 := is_15
  h17 := is_17
  h18 := is_18
  h127 := is_127
  h128 := is_128
  h129 := is_129
  h130 := is_130
  h131 := is_131
end K08
open PySem PySem.W PyProof.Rows
theorem PySem.Challenge.cw_noticeways_k08_texts_of_notices_holds : PySem.Challenge.rw_noticeways_k08_texts_of_notices.Holds := by
  exact K08.head fun ns _ _ => by
    obtain ⟨d, S, h, e⟩ := NW.EP.ok (NW.law8_ok (S := []) K08.hl K08.is_132 (k := 64) (ns := ns) (by decide))
    subst e
    exact ⟨S, h⟩
end
