import PyProof.Rows.All
import Wide.All
import OpenK.AllK
import Wide.FinOn
import KE.KStateDown
import HandS.Head0
import HandS.Head1
import HandS.Head2
import HandS.Base
import HandS.Call
import HandS.Ends
import HandS.EndBits
import HandS.Defaults
import HandS.HeadEnd
import HandS.HeadHook1
import HandS.HeadHook2
import HandS.HeadHook4
import HandS.Codes
import HandS.Style
import HandS.ForMost
import HandS.Exc
import HandS.TryOnly
import HandS.ExcOwn
import HandS.WordsExc
import HandS.Deep
import HandS.TupAny
import HandS.TupMul
import HandS.Conv
import HandS.IsInst
import HandS.CallSlots
import HandS.Wide
import PySem.Challenge.RW_noticeways_k01_notices_and_houses_recogn
set_option Elab.async false
set_option linter.all false
set_option maxRecDepth 100000
set_option maxHeartbeats 4000000
section
/- The core language: values, stores, syntax, evaluator. -/
namespace NW
open PySem

/-- a value: immutable data by value; a mutable object by its place in the store -/
inductive D where
  | non | bl (b : Bool) | int (i : Int) | str (x : Str)
  | tup (ds : List D) | lst (ds : List D)
  | loc (n : Nat) | fn (f : Nat) | scr (ns : List Int)
  deriving Inhabited

mutual
def D.py : D → PyData
  | .non => .none
  | .bl b => .bool b
  | .int i => .int i
  | .str x => .str x
  | .tup ds => .tuple (D.pyL ds)
  | .lst ds => .list (D.pyL ds)
  | .loc _ => .none
  | .fn _ => .none
  | .scr _ => .none
def D.pyL : List D → List PyData
  | [] => []
  | d :: ds => d.py :: D.pyL ds
end
mutual
/-- plain data that == may be asked of -/
def D.ok : D → Bool
  | .non => true
  | .bl _ => true
  | .int _ => true
  | .str x => PyData.strOk x
  | .tup ds => D.okL ds
  | .lst ds => D.okL ds
  | .loc _ => false
  | .fn _ => false
  | .scr _ => false
def D.okL : List D → Bool
  | [] => true
  | d :: ds => d.ok && D.okL ds
end
mutual
def D.depth : D → Nat
  | .tup ds => D.depthL ds + 1
  | .lst ds => D.depthL ds + 1
  | .non => 0
  | .bl _ => 0
  | .int _ => 0
  | .str _ => 0
  | .loc _ => 0
  | .fn _ => 0
  | .scr _ => 0
def D.depthL : List D → Nat
  | [] => 0
  | d :: ds => max d.depth (D.depthL ds)
end
mutual
/-- Python's == -/
def D.eqv : D → D → Bool
  | .non, .non => true
  | .bl a, .bl b => a == b
  | .bl a, .int j => (if a then 1 else 0) == j
  | .int i, .bl b => i == (if b then 1 else 0)
  | .int i, .int j => i == j
  | .str x, .str y => x == y
  | .lst xs, .lst ys => D.eqvL xs ys
  | .tup xs, .tup ys => D.eqvL xs ys
  | _, _ => false
def D.eqvL : List D → List D → Bool
  | [], [] => true
  | x :: xs, y :: ys => D.eqv x y && D.eqvL xs ys
  | _, _ => false
end
mutual
/-- the very same -/
def D.same : D → D → Bool
  | .non, .non => true
  | .bl a, .bl b => a == b
  | .int i, .int j => i == j
  | .str x, .str y => x == y
  | .lst xs, .lst ys => D.sameL xs ys
  | .tup xs, .tup ys => D.sameL xs ys
  | .loc n, .loc m => n == m
  | .fn n, .fn m => n == m
  | .scr x, .scr y => x == y
  | _, _ => false
def D.sameL : List D → List D → Bool
  | [], [] => true
  | x :: xs, y :: ys => D.same x y && D.sameL xs ys
  | _, _ => false
end
mutual
/-- all places in it lie below n -/
def D.under (n : Nat) : D → Bool
  | .loc m => decide (m < n)
  | .tup ds => D.underL n ds
  | .lst ds => D.underL n ds
  | .non => true
  | .bl _ => true
  | .int _ => true
  | .str _ => true
  | .fn _ => true
  | .scr _ => true
def D.underL (n : Nat) : List D → Bool
  | [] => true
  | d :: ds => D.under n d && D.underL n ds
end

/-- an exception of one of the program's classes: the class, its own fields -/
structure Xc where
  cls : Nat
  fs : List (Str × D)

/-- a mutable object -/
inductive Ob where
  | lst (ds : List D)
  deriving Inhabited
def Ob.same : Ob → Ob → Bool
  | .lst xs, .lst ys => D.sameL xs ys
def Ob.under (n : Nat) : Ob → Bool
  | .lst xs => D.underL n xs

abbrev Env := List (Option D)
abbrev Store := List Ob

inductive R (α : Type) where
  | ok (a : α) (S : Store) | exc (x : Xc) (S : Store) | bad
def R.bind {α β : Type} (r : R α) (f : α → Store → R β) : R β :=
  match r with
  | .ok a S => f a S
  | .exc x S => .exc x S
  | .bad => .bad
def R.opt {α : Type} (o : Option α) (S : Store) : R α :=
  match o with
  | some a => .ok a S
  | none => .bad

/-! ### operations by values -/
/-- what a list holds, by value or by its place -/
def listOf (S : Store) : D → Option (List D)
  | .lst ds => some ds
  | .loc n => match S[n]? with
    | some (.lst ds) => some ds
    | none => none
  | _ => none
/-- .. a list or a tuple -/
def seqOf (S : Store) : D → Option (List D)
  | .tup ds => some ds
  | .scr ns => some (ns.map .int)
  | d => listOf S d
/-- a mutable list seen as it stands now -/
def flat (S : Store) : D → D
  | .loc n => match S[n]? with
    | some (.lst ds) => .lst ds
    | none => .loc n
  | d => d

def lineN : Nat := 16777216
def mulOk (i j : Int) : Bool := decide (-(2 ^ 64) < i ∧ i < 2 ^ 64) || (decide (-(2 ^ 64) < j ∧ j < 2 ^ 64) || decide (i.natAbs.log2 + j.natAbs.log2 < 1000000))
def divOk (j : Int) : Bool := decide (0 < j) && (decide (j < 1073741824) || decide (j.natAbs.log2 < 9000))
def powOk (i j : Int) : Bool := decide (0 ≤ j ∧ j ≤ 1000000 ∧ i.natAbs < 2 ^ 64)
def binInt : Operator → Int → Int → Option Int
  | .Add, i, j => some (i + j)
  | .Sub, i, j => some (i - j)
  | .Mult, i, j => if mulOk i j then some (i * j) else none
  | .FloorDiv, i, j => if divOk j then some (i / j) else none
  | .Mod, i, j => if 0 < j then some (i % j) else none
  | .Pow, i, j => if powOk i j then some (i ^ j.toNat) else none
  | .LShift, i, j => if powOk i j then some (i * 2 ^ j.toNat) else none
  | .RShift, i, j => if 0 ≤ j then some (i / 2 ^ j.toNat) else none
  | .BitAnd, i, j => some (Builtin.bitAnd i j)
  | .BitOr, i, j => some (Builtin.bitOr i j)
  | .BitXor, i, j => some (Builtin.bitXor i j)
  | _, _, _ => none
def binTup : Operator → List D → List D → Option D
  | .Add, xs, ys => if xs.length + ys.length ≤ lineN then some (.tup (xs ++ ys)) else none
  | _, _, _ => none
def binLst : Operator → List D → List D → Option D
  | .Add, xs, ys => if xs.length + ys.length ≤ lineN then some (.lst (xs ++ ys)) else none
  | _, _, _ => none
def repTup (xs : List D) (k : Int) : Option D :=
  if xs ≠ [] ∧ 2 ≤ k ∧ k ≤ 1000 ∧ xs.length ≤ 1000 then some (.tup (List.replicate k.toNat xs).flatten) else none
def repLst (xs : List D) (k : Int) : Option D :=
  if 0 ≤ k ∧ k ≤ 16777216 ∧ xs.length * k.toNat ≤ lineN then some (.lst (List.replicate k.toNat xs).flatten) else none
def binOp (op : Operator) (S : Store) (a b : D) : Option D :=
  match a, b with
  | .int i, .int j => (binInt op i j).map .int
  | .tup xs, .tup ys => binTup op xs ys
  | .tup xs, .int k => if op = .Mult then repTup xs k else none
  | .str x, .str y => if op = .Add ∧ x.length + y.length ≤ lineN then some (.str (x ++ y)) else none
  | a, .int k => if op = .Mult then (listOf S a).bind fun xs => repLst xs k else none
  | a, b => (listOf S a).bind fun xs => (listOf S b).bind fun ys => binLst op xs ys

def eqOk (a b : D) : Bool := a.ok && b.ok && decide (min a.depth b.depth ≤ 100)
def inOk (a : D) (ds : List D) : Bool := a.ok && D.okL ds && decide (min (D.depthL ds) a.depth ≤ 100)
def cmpInt : CmpOp → Int → Int → Option Bool
  | .Lt, i, j => some (decide (i < j))
  | .LtE, i, j => some (decide (i ≤ j))
  | .Gt, i, j => some (decide (j < i))
  | .GtE, i, j => some (decide (j ≤ i))
  | _, _, _ => none
def ordOp (op : CmpOp) (a b : D) : Option Bool :=
  match a, b with
  | .int i, .int j => cmpInt op i j
  | _, _ => none
def isNone : D → Bool
  | .non => true
  | _ => false
def isBl : D → Option Bool
  | .bl b => some b
  | _ => none
def cmpOp (op : CmpOp) (S : Store) (a b : D) : Option Bool :=
  match op with
  | .Eq => if eqOk (flat S a) (flat S b) then some (D.eqv (flat S a) (flat S b)) else none
  | .NotEq => if eqOk (flat S a) (flat S b) then some (!D.eqv (flat S a) (flat S b)) else none
  | .In => (seqOf S b).bind fun ds => if inOk (flat S a) ds then some (ds.any fun z => D.eqv z (flat S a)) else none
  | .NotIn => (seqOf S b).bind fun ds => if inOk (flat S a) ds then some (!ds.any fun z => D.eqv z (flat S a)) else none
  | .Is => match b with
    | .non => some (isNone a)
    | .bl y => (isBl a).map fun x => decide (x = y)
    | _ => none
  | .IsNot => match b with
    | .non => some (!isNone a)
    | .bl y => (isBl a).map fun x => !decide (x = y)
    | _ => none
  | op => ordOp op a b

/-- the classes that isinstance is asked of here -/
inductive Ty where
  | int | bool | str | tuple | list
  deriving DecidableEq
def isi (S : Store) (d : D) (t : Ty) : Option Bool :=
  match flat S d with
  | .non => some false
  | .bl _ => some (decide (t = .bool) || decide (t = .int))
  | .int _ => some (decide (t = .int))
  | .str _ => some (decide (t = .str))
  | .tup _ => some (decide (t = .tuple))
  | .lst _ => some (decide (t = .list))
  | _ => none

/-- the place of an index -/
def ixAt (n : Nat) (i : Int) : Option Nat := if 0 ≤ i then (if i < n then some i.toNat else none) else if -(n : Int) ≤ i then some (i + n).toNat else none
def atD (ds : List D) (i : Int) : Option D := (ixAt ds.length i).bind fun j => ds[j]?
def slIx (n d : Nat) : Option Int → Nat
  | none => d
  | some v => if v < 0 then (v + (n : Int)).toNat else min v.toNat n
def cutD {α : Type} (xs : List α) (lo hi : Option Int) : List α := (xs.drop (slIx xs.length 0 lo)).take (slIx xs.length xs.length hi - slIx xs.length 0 lo)
def idxOp (S : Store) (a i : D) : Option D :=
  match i with
  | .int k => (seqOf S a).bind fun ds => atD ds k
  | _ => none
def slOp (S : Store) (a : D) (l h : Option Int) : Option D :=
  match a with
  | .tup ds => some (.tup (cutD ds l h))
  | a => (listOf S a).map fun ds => .lst (cutD ds l h)
def partOf : D → Option Int
  | .int i => some i
  | _ => none

inductive Bf where
  | len | abs | int | list | tuple | all | sum | min | max
  deriving DecidableEq
def allBl : List D → Option (List Bool)
  | [] => some []
  | .bl b :: r => (allBl r).map fun bs => b :: bs
  | _ => none
def allInt : List D → Option (List Int)
  | [] => some []
  | .int i :: r => (allInt r).map fun is => i :: is
  | _ => none
def callB (f : Bf) (S : Store) (ds : List D) : Option D :=
  match f, ds with
  | .len, [.str x] => if x.length ≤ lineN then some (.int x.length) else none
  | .len, [d] => (seqOf S d).map fun ds => .int ds.length
  | .abs, [.int i] => some (.int (if i < 0 then -i else i))
  | .int, [.int i] => some (.int i)
  | .int, [.bl b] => some (.int (if b then 1 else 0))
  | .list, [d] => (seqOf S d).map fun ds => .lst ds
  | .tuple, [d] => (seqOf S d).map fun ds => .tup ds
  | .all, [d] => (listOf S d).bind fun ds => (allBl ds).map fun bs => .bl (bs.all id)
  | .min, [.int i, .int j] => some (.int (if j < i then j else i))
  | .max, [.int i, .int j] => some (.int (if j > i then j else i))
  | .sum, [d] => (listOf S d).bind fun ds => (allInt ds).map fun is => .int is.sum
  | .min, [d] => (listOf S d).bind fun ds => (allInt ds).bind fun is => is.min?.map .int
  | .max, [d] => (listOf S d).bind fun ds => (allInt ds).bind fun is => is.max?.map .int
  | _, _ => none

/-! ### syntax -/
/-- a target: a name, names of a tuple -/
inductive Tg where
  | name (i : Nat)
  | tup (is : List Nat)
mutual
inductive E where
  | var (i : Nat) | non | bl (b : Bool) | int (i : Int) | str (x : Str) | cst (x : Str) (d : D)
  | bin (op : Operator) (a b : E) | neg (a : E)
  | cmp (op : CmpOp) (a b : E) | chn (op op' : CmpOp) (a b c : E)
  | and (es : Es) | or (es : Es) | not (a : E) | ite (c a b : E)
  | tup (es : Es) | lst (es : Es) | nlst (es : Es)
  | idx (a i : E) | sl (a : E) (lo hi : Oe)
  | call (f : Nat) (es : Es) | cb (f : Bf) (es : Es) | isi (a : E) (t : Ty)
  | comp (elt : E) (own : List (Str × Nat)) (tg : Tg) (it : It) (c : Oe)
inductive Es where
  | nil | cons (e : E) (es : Es)
inductive Oe where
  | none | some (e : E)
inductive It where
  | e (a : E) | rng (a : E) | rng2 (a b : E)
end
mutual
inductive S where
  | set (i : Nat) (e : E) | setT (is : List Nat) (e : E) | par (is : List Nat) (es : Es)
  | setI (o i e : E) | ret (e : E) | exp (e : E) | app (o e : E)
  | ife (c : E) (a b : Ss) | whl (c : E) (b : Ss) | for_ (tg : Tg) (it : It) (b : Ss) | brk
inductive Ss where
  | nil | cons (s : S) (ss : Ss)
end

/-! ### the evaluator -/
/-- how a statement ends -/
inductive Fl where
  | nx | ret (d : D) | brk
inductive SR where
  | fl (f : Fl) (G : Env) (S : Store) | exc (x : Xc) (G : Env) (S : Store) | bad
def setV (G : Env) (i : Nat) (d : D) : Env := G.set i (some d)
def setVs : Env → List Nat → List D → Option Env
  | G, [], [] => some G
  | G, i :: is, d :: ds => setVs (setV G i d) is ds
  | _, _, _ => none
def setTg (G : Env) : Tg → D → Option Env
  | .name i, d => some (setV G i d)
  | .tup is, .tup ds => setVs G is ds
  | _, _ => none
def wipeE : Env → List Nat → Env
  | G, [] => G
  | G, v :: vs => (wipeE G vs).set v none

abbrev Calls := Nat → List D → Store → R D
abbrev ME := Env → Store → R D
/-- what a for or a comprehension walks: the items; a place whose list must stay as it is -/
structure Src where
  items : List D
  at_ : Option Nat := none
def Src.stays (s : Src) (S : Store) : Bool :=
  match s.at_ with
  | none => true
  | some n => match S[n]? with
    | some (.lst ds) => D.sameL ds s.items
    | none => false
def srcOf (S : Store) : D → Option Src
  | .tup ds => some ⟨ds, none⟩
  | .lst ds => some ⟨ds, none⟩
  | .loc n => match S[n]? with
    | some (.lst ds) => some ⟨ds, some n⟩
    | none => none
  | _ => none
def rngOk (i j : Int) : Bool := decide (-(2 ^ 62) ≤ i ∧ i < 2 ^ 62 ∧ -(2 ^ 62) ≤ j ∧ j < 2 ^ 62)
def rngD (lo : Int) (n : Nat) : List D := (List.range n).map fun (i : Nat) => D.int (lo + (i : Int))

def rngSrc (a b : D) : Option Src :=
  match a, b with
  | .int i, .int j => if rngOk i j then some ⟨rngD i (j - i).toNat, none⟩ else none
  | _, _ => none
def negD : D → Option D
  | .int i => some (.int (-i))
  | _ => none
def tst (r : R D) (f : Bool → Store → R D) : R D := r.bind fun d S => match d with
  | .bl b => f b S
  | _ => .bad
/-- the turns of a comprehension -/
def noEx {α : Type} (r : R D) (f : D → Store → R α) : R α :=
  match r with
  | .ok d S => f d S
  | _ => .bad
def compTurn (c : Option ME) (elt : ME) (G : Env) (S : Store) (yes : D → Store → R D) (no : Store → R D) : R D :=
  match c with
  | none => noEx (elt G S) yes
  | some c' => noEx (c' G S) fun t S1 => match t with
    | .bl true => noEx (elt G S1) yes
    | .bl false => no S1
    | _ => .bad
def compGo (tg : Tg) (c : Option ME) (elt : ME) (src : Src) (G : Env) : List D → List D → Store → R D
  | [], acc, S => if src.stays S then .ok (.lst acc) S else .bad
  | x :: xs, acc, S => if src.stays S && decide (acc.length < lineN) then
      match setTg G tg x with
      | none => .bad
      | some G2 => compTurn c elt G2 S (fun d S2 => compGo tg c elt src G xs (acc ++ [d]) S2) (fun S1 => compGo tg c elt src G xs acc S1)
    else .bad

mutual
def evE (C : Calls) : E → Env → Store → R D
  | .var i, G, S => R.opt ((G[i]?).bind id) S
  | .non, _, S => .ok .non S
  | .bl b, _, S => .ok (.bl b) S
  | .int i, _, S => .ok (.int i) S
  | .str x, _, S => .ok (.str x) S
  | .cst _ d, _, S => .ok d S
  | .bin op a b, G, S => (evE C a G S).bind fun x S1 => (evE C b G S1).bind fun y S2 => R.opt (binOp op S2 x y) S2
  | .neg a, G, S => (evE C a G S).bind fun x S1 => R.opt (negD x) S1
  | .cmp op a b, G, S => (evE C a G S).bind fun x S1 => (evE C b G S1).bind fun y S2 => R.opt ((cmpOp op S2 x y).map .bl) S2
  | .chn op op' a b c, G, S => (evE C a G S).bind fun x S1 => (evE C b G S1).bind fun y S2 => (R.opt (cmpOp op S2 x y) S2).bind fun t S2' => cond t ((evE C c G S2').bind fun z S3 => R.opt ((cmpOp op' S3 y z).map .bl) S3) (.ok (.bl false) S2')
  | .and es, G, S => evAnd C es G S
  | .or es, G, S => evOr C es G S
  | .not a, G, S => tst (evE C a G S) fun b S1 => .ok (.bl (!b)) S1
  | .ite c a b, G, S => tst (evE C c G S) fun t S1 => cond t (evE C a G S1) (evE C b G S1)
  | .tup es, G, S => (evEs C es G S).bind fun ds S1 => if ds.length ≤ lineN then .ok (.tup ds) S1 else .bad
  | .lst es, G, S => (evEs C es G S).bind fun ds S1 => if ds.length ≤ lineN then .ok (.lst ds) S1 else .bad
  | .nlst es, G, S => (evEs C es G S).bind fun ds S1 => if ds.length ≤ lineN then .ok (.loc S1.length) (S1 ++ [.lst ds]) else .bad
  | .idx a i, G, S => (evE C a G S).bind fun x S1 => (evE C i G S1).bind fun y S2 => R.opt (idxOp S2 x y) S2
  | .sl a lo hi, G, S => (evE C a G S).bind fun x S1 => (evO C lo G S1).bind fun l S2 => (evO C hi G S2).bind fun h S3 => R.opt (slOp S3 x l h) S3
  | .call f es, G, S => (evEs C es G S).bind fun ds S1 => C f ds S1
  | .cb f es, G, S => (evEs C es G S).bind fun ds S1 => R.opt (callB f S1 ds) S1
  | .isi a t, G, S => (evE C a G S).bind fun x S1 => R.opt ((isi S1 x t).map .bl) S1
  | .comp elt own tg it c, G, S => (evI C it G S).bind fun src S1 => compGo tg (evC C c) (evE C elt) src (wipeE G (own.map (·.2))) src.items [] S1
def evEs (C : Calls) : Es → Env → Store → R (List D)
  | .nil, _, S => .ok [] S
  | .cons e es, G, S => (evE C e G S).bind fun d S1 => (evEs C es G S1).bind fun ds S2 => .ok (d :: ds) S2
def evAnd (C : Calls) : Es → Env → Store → R D
  | .nil, _, _ => .bad
  | .cons e .nil, G, S => evE C e G S
  | .cons e es, G, S => tst (evE C e G S) fun b S1 => cond b (evAnd C es G S1) (.ok (.bl false) S1)
def evOr (C : Calls) : Es → Env → Store → R D
  | .nil, _, _ => .bad
  | .cons e .nil, G, S => evE C e G S
  | .cons e es, G, S => tst (evE C e G S) fun b S1 => cond b (.ok (.bl true) S1) (evOr C es G S1)
def evO (C : Calls) : Oe → Env → Store → R (Option Int)
  | .none, _, S => .ok none S
  | .some e, G, S => (evE C e G S).bind fun d S1 => (R.opt (partOf d) S1).bind fun i S1' => .ok (some i) S1'
def evC (C : Calls) : Oe → Option ME
  | .none => none
  | .some e => some (evE C e)
def evI (C : Calls) : It → Env → Store → R Src
  | .e a, G, S => (evE C a G S).bind fun d S1 => R.opt (srcOf S1 d) S1
  | .rng a, G, S => (evE C a G S).bind fun d S1 => R.opt (rngSrc (.int 0) d) S1
  | .rng2 a b, G, S => (evE C a G S).bind fun d S1 => (evE C b G S1).bind fun d2 S2 => R.opt (rngSrc d d2) S2
end
abbrev MS := Env → Store → SR
def R.toS {α : Type} (r : R α) (G : Env) (f : α → Store → SR) : SR :=
  match r with
  | .ok d S => f d S
  | .exc x S => .exc x G S
  | .bad => .bad
/-- a while: at most so many turns -/
def whlGo (c : ME) (b : MS) : Nat → MS
  | 0, _, _ => .bad
  | n + 1, G, S => (c G S).toS G fun d S1 => match d with
    | .bl true => (match b G S1 with
      | .fl .nx G2 S2 => whlGo c b n G2 S2
      | .fl .brk G2 S2 => .fl .nx G2 S2
      | r => r)
    | .bl false => .fl .nx G S1
    | _ => .bad
def forGo (tg : Tg) (b : MS) (src : Src) : List D → MS
  | [], G, S => if src.stays S then .fl .nx G S else .bad
  | x :: xs, G, S => if src.stays S then
      match setTg G tg x with
      | none => .bad
      | some G2 => match b G2 S with
        | .fl .nx G3 S3 => forGo tg b src xs G3 S3
        | .fl .brk G3 S3 => .fl .nx G3 S3
        | r => r
    else .bad
def whlMost : Nat := 1048576
def setItemD (S : Store) (o i d : D) : Option Store :=
  match o, i with
  | .loc n, .int k => match S[n]? with
    | some (.lst ds) => (ixAt ds.length k).map fun j => S.set n (.lst (ds.set j d))
    | none => none
  | _, _ => none
def appD (S : Store) (o d : D) : Option Store :=
  match o with
  | .loc n => match S[n]? with
    | some (.lst ds) => if ds.length < lineN then some (S.set n (.lst (ds ++ [d]))) else none
    | none => none
  | _ => none
mutual
def evS (C : Calls) : S → MS
  | .set i e, G, S => (evE C e G S).toS G fun d S1 => .fl .nx (setV G i d) S1
  | .setT is e, G, S => (evE C e G S).toS G fun d S1 => match setTg G (.tup is) d with
    | some G2 => .fl .nx G2 S1
    | none => .bad
  | .par is es, G, S => (evEs C es G S).toS G fun ds S1 => match setVs G is ds with
    | some G2 => .fl .nx G2 S1
    | none => .bad
  | .setI o i e, G, S => (evE C e G S).toS G fun d S1 => (evE C o G S1).toS G fun x S2 => (evE C i G S2).toS G fun y S3 => match setItemD S3 x y d with
    | some S4 => .fl .nx G S4
    | none => .bad
  | .ret e, G, S => (evE C e G S).toS G fun d S1 => .fl (.ret d) G S1
  | .exp e, G, S => (evE C e G S).toS G fun _ S1 => .fl .nx G S1
  | .app o e, G, S => (evE C o G S).toS G fun x S1 => if (listOf S1 x).isSome then (evE C e G S1).toS G fun d S2 => match appD S2 x d with
      | some S3 => .fl .nx G S3
      | none => .bad
    else .bad
  | .ife c a b, G, S => (evE C c G S).toS G fun d S1 => match d with
    | .bl true => evSs C a G S1
    | .bl false => evSs C b G S1
    | _ => .bad
  | .whl c b, G, S => whlGo (evE C c) (evSs C b) whlMost G S
  | .for_ tg it b, G, S => (evI C it G S).toS G fun src S1 => forGo tg (evSs C b) src src.items G S1
  | .brk, G, S => .fl .brk G S
def evSs (C : Calls) : Ss → MS
  | .nil, G, S => .fl .nx G S
  | .cons s ss, G, S => match evS C s G S with
    | .fl .nx G2 S2 => evSs C ss G2 S2
    | r => r
end

/-! ### defs and calls -/
structure FD where
  name : Str
  N : List Str
  np : Nat
  body : Ss
  tr : Bool := false
def startE (n : Nat) (ds : List D) : Env := ds.map some ++ List.replicate (n - ds.length) none
/-- a def's own objects are let go: what it hands back is a value -/
def letGo (n : Nat) (S0 S : Store) (d : D) : Option (D × Store) :=
  if (S.take n).length == n && ((List.range n).all fun i => match S0[i]?, S[i]? with
      | some a, some b => Ob.same a b || Ob.under n b
      | _, _ => false) then
    match d with
    | .loc m => if m < n then some (d, S.take n) else match S[m]? with
      | some (.lst ds) => if D.underL n ds then some (.lst ds, S.take n) else none
      | none => none
    | d => if D.under n d then some (d, S.take n) else none
  else none
def endCall (tr : Bool) (S0 : Store) : SR → R D
  | .fl .nx _ S => if tr then (match letGo S0.length S0 S .non with
    | some (d, S') => .ok d S'
    | none => .bad) else .ok .non S
  | .fl (.ret d) _ S => if tr then (match letGo S0.length S0 S d with
    | some (d', S') => .ok d' S'
    | none => .bad) else .ok d S
  | .fl .brk _ _ => .bad
  | .exc x _ S => .exc x S
  | .bad => .bad
def callN (T : Nat → Option FD) : Nat → Calls
  | 0, _, _, _ => .bad
  | k + 1, f, ds, S => match T f with
    | none => .bad
    | some fd => if ds.length = fd.np then endCall fd.tr S (evSs (callN T k) fd.body (startE fd.N.length ds) S) else .bad
end NW
end
section
/- How values and stores lie in the abstract heap. -/
namespace NW
open PySem PySem.Spec L2

/-- a tuple of the written part -/
def KTup (K : PySem.W.Frag) (a : Addr) (xs : List V) : Prop :=
  ∃ (o : Obj) (its : Array Value) (n : Nat), K.lookup a = some o ∧ o.cls = .type "tuple" ∧ o.data = .seq its n ∧ its.size ≤ sizeLine ∧ Vals xs its.toList
def KLst (K : PySem.W.Frag) (a : Addr) (xs : List V) : Prop :=
  ∃ (o : Obj) (its : Array Value) (n : Nat), K.lookup a = some o ∧ o.cls = .type "list" ∧ o.dict = none ∧ o.data = .seq its n ∧ its.size ≤ sizeLine ∧ Vals xs its.toList
/-- the places' addresses; addresses that no value here refers to (lists that a comprehension is making) -/
structure Pl where
  pl : List Addr
  fb : List Addr := []
mutual
inductive Rep (K : PySem.W.Frag) (fa : Nat → Addr) (A : Pl) (H : Hp) : V → D → Prop
  | non : Rep K fa A H .non .non
  | bl (b : Bool) : Rep K fa A H (.bl b) (.bl b)
  | int (i : Int) : Rep K fa A H (.int i) (.int i)
  | str (x : Str) : Rep K fa A H (.str x) (.str x)
  | tup {a : Addr} {xs : List V} {ds : List D} : H a = some (.tup xs) → a ∉ A.pl → a ∉ A.fb → RepL K fa A H xs ds → Rep K fa A H (.ref a) (.tup ds)
  | ktup {a : Addr} {xs : List V} {ds : List D} : KTup K a xs → RepL K fa A H xs ds → Rep K fa A H (.ref a) (.tup ds)
  | lst {a : Addr} {xs : List V} {ds : List D} : H a = some (.lst xs) → a ∉ A.pl → a ∉ A.fb → RepL K fa A H xs ds → Rep K fa A H (.ref a) (.lst ds)
  | loc {a : Addr} {n : Nat} : A.pl[n]? = some a → Rep K fa A H (.ref a) (.loc n)
  | fn (f : Nat) : Rep K fa A H (.ref (fa f)) (.fn f)
  | scr {a : Addr} {ns : List Int} : Rd H a (.lst (ns.map V.int)) → a ∉ A.pl → a ∉ A.fb → Rep K fa A H (.ref a) (.scr ns)
  | kscr {a : Addr} {ns : List Int} : KLst K a (ns.map V.int) → Rep K fa A H (.ref a) (.scr ns)
inductive RepL (K : PySem.W.Frag) (fa : Nat → Addr) (A : Pl) (H : Hp) : List V → List D → Prop
  | nil : RepL K fa A H [] []
  | cons {v : V} {vs : List V} {d : D} {ds : List D} : Rep K fa A H v d → RepL K fa A H vs ds → RepL K fa A H (v :: vs) (d :: ds)
end
variable {K : PySem.W.Frag} {fa : Nat → Addr} {A A1 A2 A' : Pl} {H H1 H2 H' : Hp} {σ : St} {G : Env}

theorem RepL.length {vs : List V} {ds : List D} (r : RepL K fa A H vs ds) : vs.length = ds.length := by
  induction ds generalizing vs with
  | nil => cases r; rfl
  | cons d ds ih => cases r with | cons _ t => simp [ih t]
theorem RepL.get : ∀ {ds : List D} {vs : List V} {i : Nat} {d : D}, RepL K fa A H vs ds → ds[i]? = some d → ∃ v, vs[i]? = some v ∧ Rep K fa A H v d
  | [], _, _, _, _, e => by simp at e
  | _ :: _, _, 0, _, .cons r _, e => by simp at e; subst e; exact ⟨_, rfl, r⟩
  | _ :: _, _, i + 1, _, .cons _ t, e => by simpa using RepL.get (i := i) t (by simpa using e)
theorem RepL.getV : ∀ {vs : List V} {ds : List D} {i : Nat} {v : V}, RepL K fa A H vs ds → vs[i]? = some v → ∃ d, ds[i]? = some d ∧ Rep K fa A H v d
  | [], _, _, _, _, e => by simp at e
  | _ :: _, _, 0, _, .cons r _, e => by simp at e; subst e; exact ⟨_, rfl, r⟩
  | _ :: _, _, i + 1, _, .cons _ t, e => by simpa using RepL.getV (i := i) t (by simpa using e)
theorem RepL.append : ∀ {xs ys : List V} {ds es : List D}, RepL K fa A H xs ds → RepL K fa A H ys es → RepL K fa A H (xs ++ ys) (ds ++ es)
  | _, _, _, _, .nil, s => s
  | _, _, _, _, .cons r t, s => .cons r (RepL.append t s)
theorem RepL.take : ∀ {xs : List V} {ds : List D} (n : Nat), RepL K fa A H xs ds → RepL K fa A H (xs.take n) (ds.take n)
  | _, _, 0, _ => .nil
  | _, _, _ + 1, .nil => .nil
  | _, _, n + 1, .cons r t => .cons r (RepL.take n t)
theorem RepL.drop : ∀ {xs : List V} {ds : List D} (n : Nat), RepL K fa A H xs ds → RepL K fa A H (xs.drop n) (ds.drop n)
  | _, _, 0, r => r
  | _, _, _ + 1, .nil => .nil
  | _, _, n + 1, .cons _ t => RepL.drop n t
theorem RepL.set {v : V} {d : D} (r : Rep K fa A H v d) : ∀ {xs : List V} {ds : List D} (i : Nat), RepL K fa A H xs ds → RepL K fa A H (xs.set i v) (ds.set i d)
  | _, _, _, .nil => .nil
  | _, _, 0, .cons _ t => .cons r t
  | _, _, i + 1, .cons q t => .cons q (RepL.set r i t)
theorem RepL.rep {xs : List V} {ds : List D} (h : RepL K fa A H xs ds) : ∀ k : Nat, RepL K fa A H (List.replicate k xs).flatten (List.replicate k ds).flatten
  | 0 => .nil
  | k + 1 => by
    rw [List.replicate_succ, List.flatten_cons, List.replicate_succ, List.flatten_cons]
    exact h.append (RepL.rep h k)
theorem RepL.ints : ∀ ns : List Int, RepL K fa A H (ns.map V.int) (ns.map D.int)
  | [] => .nil
  | n :: ns => .cons (.int n) (RepL.ints ns)
theorem RepL.reverse : ∀ {xs : List V} {ds : List D}, RepL K fa A H xs ds → RepL K fa A H xs.reverse ds.reverse
  | _, _, .nil => .nil
  | _, _, .cons r t => by
    rw [List.reverse_cons, List.reverse_cons]
    exact (RepL.reverse t).append (.cons r .nil)

/-- what a step of the program may do to the heap: the places' own objects may change, new ones may come -/
structure Ext (A : Pl) (H : Hp) (A' : Pl) (H' : Hp) : Prop where
  pre : ∃ B, A'.pl = A.pl ++ B
  fb : A'.fb = A.fb
  new : ∀ b ∈ A'.pl, b ∉ A.pl → H b = none
  keep : ∀ a o, a ∉ A.pl → H a = some o → H' a = some o
theorem Ext.refl : Ext A H A H := ⟨⟨[], by simp⟩, rfl, fun _ h1 h2 => absurd h1 h2, fun _ _ _ h => h⟩
theorem Ext.notin (e : Ext A H A1 H1) {a : Addr} {o : HO} (h : H a = some o) (n : a ∉ A.pl) : a ∉ A1.pl := fun m => by
  rw [e.new a m n] at h; cases h
theorem Ext.trans (e : Ext A H A1 H1) (e2 : Ext A1 H1 A2 H2) : Ext A H A2 H2 where
  pre := by
    obtain ⟨B, h⟩ := e.pre
    obtain ⟨B2, h2⟩ := e2.pre
    exact ⟨B ++ B2, by rw [h2, h, List.append_assoc]⟩
  fb := e2.fb.trans e.fb
  new := fun b m n => by
    by_cases h : b ∈ A1.pl
    · exact e.new b h n
    · have q := e2.new b m h
      cases q2 : H b with
      | none => rfl
      | some o => rw [e.keep b o n q2] at q; cases q
  keep := fun a o n h => e2.keep a o (e.notin h n) (e.keep a o n h)
theorem Ext.at (e : Ext A H A1 H1) {n : Nat} {a : Addr} (m : A.pl[n]? = some a) : A1.pl[n]? = some a := by
  obtain ⟨B, h⟩ := e.pre
  have hn := (List.getElem?_eq_some_iff.mp m).1
  rw [h, List.getElem?_append_left hn]; exact m
mutual
/-- a value in another heap: what it stands on is kept -/
theorem Rep.carry (hp : ∀ (n : Nat) (a : Addr), A.pl[n]? = some a → A1.pl[n]? = some a) (hk : ∀ a o, a ∉ A.pl → a ∉ A.fb → H a = some o → H1 a = some o ∧ a ∉ A1.pl ∧ a ∉ A1.fb) : ∀ (d : D) (v : V), Rep K fa A H v d → Rep K fa A1 H1 v d
  | .non, _, h => by cases h; exact .non
  | .bl b, _, h => by cases h; exact .bl b
  | .int i, _, h => by cases h; exact .int i
  | .str x, _, h => by cases h; exact .str x
  | .tup ds, _, h => by
    cases h with
    | tup h n m r => obtain ⟨q1, q2, q3⟩ := hk _ _ n m h; exact .tup q1 q2 q3 (RepL.carry hp hk ds _ r)
    | ktup k r => exact .ktup k (RepL.carry hp hk ds _ r)
  | .lst ds, _, h => by
    cases h with
    | lst h n m r => obtain ⟨q1, q2, q3⟩ := hk _ _ n m h; exact .lst q1 q2 q3 (RepL.carry hp hk ds _ r)
  | .loc n, _, h => by
    cases h with
    | loc m => exact .loc (hp _ _ m)
  | .fn f, _, h => by cases h; exact .fn f
  | .scr ns, _, h => by
    cases h with
    | scr h n m =>
      rcases h with h | ⟨o, h⟩
      · obtain ⟨q1, q2, q3⟩ := hk _ _ n m h; exact .scr (.inl q1) q2 q3
      · obtain ⟨q1, q2, q3⟩ := hk _ _ n m h; exact .scr (.inr ⟨o, q1⟩) q2 q3
    | kscr k => exact .kscr k
theorem RepL.carry (hp : ∀ (n : Nat) (a : Addr), A.pl[n]? = some a → A1.pl[n]? = some a) (hk : ∀ a o, a ∉ A.pl → a ∉ A.fb → H a = some o → H1 a = some o ∧ a ∉ A1.pl ∧ a ∉ A1.fb) : ∀ (ds : List D) (vs : List V), RepL K fa A H vs ds → RepL K fa A1 H1 vs ds
  | [], _, h => by cases h; exact .nil
  | d :: ds, _, h => by
    cases h with
    | cons h1 h2 => exact .cons (Rep.carry hp hk d _ h1) (RepL.carry hp hk ds _ h2)
end
theorem Rep.mono (e : Ext A H A1 H1) (d : D) (v : V) (h : Rep K fa A H v d) : Rep K fa A1 H1 v d :=
  Rep.carry (fun _ _ m => e.at m) (fun a o n m h => ⟨e.keep a o n h, e.notin h n, by rw [e.fb]; exact m⟩) d v h
theorem RepL.mono (e : Ext A H A1 H1) (ds : List D) (vs : List V) (h : RepL K fa A H vs ds) : RepL K fa A1 H1 vs ds :=
  RepL.carry (fun _ _ m => e.at m) (fun a o n m h => ⟨e.keep a o n h, e.notin h n, by rw [e.fb]; exact m⟩) ds vs h
def Pl.take (A : Pl) (n : Nat) : Pl := ⟨A.pl.take n, A.fb⟩
mutual
/-- the same value where fewer places are known -/
theorem Rep.under {n : Nat} : ∀ (d : D) (v : V), Rep K fa A H v d → d.under n = true → Rep K fa (A.take n) H v d
  | .non, _, h, _ => by cases h; exact .non
  | .bl b, _, h, _ => by cases h; exact .bl b
  | .int i, _, h, _ => by cases h; exact .int i
  | .str x, _, h, _ => by cases h; exact .str x
  | .tup ds, _, h, q => by
    have q' : D.underL n ds = true := by simpa only [D.under] using q
    cases h with
    | tup h m l r => exact .tup h (fun z => m (List.mem_of_mem_take z)) l (RepL.under ds _ r q')
    | ktup k r => exact .ktup k (RepL.under ds _ r q')
  | .lst ds, _, h, q => by
    have q' : D.underL n ds = true := by simpa only [D.under] using q
    cases h with
    | lst h m l r => exact .lst h (fun z => m (List.mem_of_mem_take z)) l (RepL.under ds _ r q')
  | .loc m, _, h, q => by
    have q' : m < n := by simpa only [D.under, decide_eq_true_eq] using q
    cases h with
    | loc z => exact .loc (by show (A.pl.take n)[m]? = _; rw [List.getElem?_take_of_lt q']; exact z)
  | .fn f, _, h, _ => by cases h; exact .fn f
  | .scr ns, _, h, _ => by
    cases h with
    | scr h m l => exact .scr h (fun z => m (List.mem_of_mem_take z)) l
    | kscr k => exact .kscr k
theorem RepL.under {n : Nat} : ∀ (ds : List D) (vs : List V), RepL K fa A H vs ds → D.underL n ds = true → RepL K fa (A.take n) H vs ds
  | [], _, h, _ => by cases h; exact .nil
  | d :: ds, _, h, q => by
    have q' : d.under n = true ∧ D.underL n ds = true := by simpa only [D.underL, Bool.and_eq_true] using q
    cases h with
    | cons h1 h2 => exact .cons (Rep.under d _ h1 q'.1) (RepL.under ds _ h2 q'.2)
end
/-- an object of a place -/
inductive RepO (K : PySem.W.Frag) (fa : Nat → Addr) (A : Pl) (H : Hp) : Addr → Ob → Prop
  | lst {a : Addr} {xs : List V} {ds : List D} : H a = some (.lst xs) → RepL K fa A H xs ds → RepO K fa A H a (.lst ds)
structure SRel (K : PySem.W.Frag) (fa : Nat → Addr) (A : Pl) (H : Hp) (S : Store) : Prop where
  len : A.pl.length = S.length
  nd : A.pl.Nodup
  obj : ∀ (n : Nat) (o : Ob), S[n]? = some o → ∃ a, A.pl[n]? = some a ∧ RepO K fa A H a o
  fbt : ∀ b ∈ A.fb, (∃ o, H b = some o) ∧ b ∉ A.pl
def GRel (K : PySem.W.Frag) (fa : Nat → Addr) (A : Pl) (H : Hp) (σ : St) (G : Env) : Prop :=
  G.length = σ.length ∧ ∀ (i : Nat) (d : D), G[i]? = some (some d) → ∃ v, σ[i]? = some (some v) ∧ Rep K fa A H v d
theorem GRel.mono (g : GRel K fa A H σ G) (e : Ext A H A1 H1) : GRel K fa A1 H1 σ G :=
  ⟨g.1, fun i d h => let ⟨v, h1, h2⟩ := g.2 i d h; ⟨v, h1, Rep.mono e _ _ h2⟩⟩
theorem SRel.mem {S : Store} (s : SRel K fa A H S) {a : Addr} (m : a ∈ A.pl) : ∃ (n : Nat) (o : Ob), S[n]? = some o ∧ A.pl[n]? = some a ∧ RepO K fa A H a o := by
  obtain ⟨n, hn⟩ := List.getElem?_of_mem m
  have h1 := (List.getElem?_eq_some_iff.mp hn).1
  have h2 : n < S.length := by rw [← s.len]; exact h1
  obtain ⟨a', e, r⟩ := s.obj n S[n] (List.getElem?_eq_getElem h2)
  rw [hn] at e; cases e
  exact ⟨n, _, List.getElem?_eq_getElem h2, hn, r⟩
theorem RepO.there {a : Addr} {o : Ob} (r : RepO K fa A H a o) : ∃ u, H a = some u := by cases r with | lst h _ => exact ⟨_, h⟩
theorem SRel.fresh {S : Store} (s : SRel K fa A H S) {p : Addr} (n : H p = none) : p ∉ A.pl := fun m => by
  obtain ⟨_, _, _, _, r⟩ := s.mem m
  obtain ⟨u, h⟩ := r.there
  rw [n] at h; cases h
theorem SRel.freshB {S : Store} (s : SRel K fa A H S) {p : Addr} (n : H p = none) : p ∉ A.fb := fun m => by
  obtain ⟨⟨u, h⟩, _⟩ := s.fbt p m
  rw [n] at h; cases h
theorem RepO.carry (hp : ∀ (n : Nat) (a : Addr), A.pl[n]? = some a → A1.pl[n]? = some a) (hk : ∀ a o, a ∉ A.pl → a ∉ A.fb → H a = some o → H1 a = some o ∧ a ∉ A1.pl ∧ a ∉ A1.fb) {a : Addr} {o : Ob} (he : H1 a = H a) (r : RepO K fa A H a o) : RepO K fa A1 H1 a o := by
  cases r with
  | lst q r => exact .lst (by rw [he]; exact q) (RepL.carry hp hk _ _ r)
/-- a new immutable object -/
theorem Ext.laid {S : Store} (s : SRel K fa A H S) {p : Addr} {o : HO} (n : H p = none) : Ext A H A (upd H p o) :=
  ⟨⟨[], by simp⟩, rfl, fun _ h1 h2 => absurd h1 h2, fun a u _ h => by rw [upd_ne (ne_of_none h n)]; exact h⟩
theorem Ext.rep (e : Ext A H A1 H1) : ∀ a o, a ∉ A.pl → a ∉ A.fb → H a = some o → H1 a = some o ∧ a ∉ A1.pl ∧ a ∉ A1.fb :=
  fun a o n m h => ⟨e.keep a o n h, e.notin h n, by rw [e.fb]; exact m⟩
theorem SRel.laid {S : Store} (s : SRel K fa A H S) {p : Addr} {o : HO} (n : H p = none) : SRel K fa A (upd H p o) S :=
  ⟨s.len, s.nd, fun m ob h => by
    obtain ⟨a, e, r⟩ := s.obj m ob h
    obtain ⟨u, hu⟩ := r.there
    exact ⟨a, e, r.carry (fun _ _ m => m) (Ext.laid s n).rep (upd_ne (ne_of_none hu n))⟩,
  fun b hb => ⟨let ⟨u, hu⟩ := (s.fbt b hb).1; ⟨u, by rw [upd_ne (ne_of_none hu n)]; exact hu⟩, (s.fbt b hb).2⟩⟩
/-- a new list of a place -/
def Pl.snoc (A : Pl) (p : Addr) : Pl := ⟨A.pl ++ [p], A.fb⟩
theorem Ext.place {S : Store} (s : SRel K fa A H S) {p : Addr} {o : HO} (n : H p = none) : Ext A H (A.snoc p) (upd H p o) :=
  ⟨⟨[p], rfl⟩, rfl, fun b h1 h2 => by
    rcases List.mem_append.mp h1 with h | h
    · exact absurd h h2
    · rw [List.mem_singleton.mp h]; exact n, fun a u _ h => by rw [upd_ne (ne_of_none h n)]; exact h⟩
theorem SRel.place {S : Store} (s : SRel K fa A H S) {p : Addr} {xs : List V} {ds : List D} (n : H p = none) (r : RepL K fa A H xs ds) : SRel K fa (A.snoc p) (upd H p (.lst xs)) (S ++ [.lst ds]) := by
  have e := Ext.place (o := .lst xs) s n
  refine ⟨by simp [Pl.snoc, s.len], ?_, fun m ob h => ?_, fun b hb => ?_⟩
  · show (A.pl ++ [p]).Nodup
    rw [List.nodup_append]
    exact ⟨s.nd, by simp, fun a ha b hb => by rw [List.mem_singleton.mp hb]; rintro rfl; exact s.fresh n ha⟩
  · by_cases hm : m < S.length
    · rw [List.getElem?_append_left hm] at h
      obtain ⟨a, ea, ra⟩ := s.obj m ob h
      obtain ⟨u, hu⟩ := ra.there
      exact ⟨a, e.at ea, ra.carry (fun _ _ m => e.at m) e.rep (upd_ne (ne_of_none hu n))⟩
    · have hl : m < (S ++ [Ob.lst ds]).length := (List.getElem?_eq_some_iff.mp h).1
      have hm' : m = S.length := by simp at hl; omega
      subst hm'
      have h' : Ob.lst ds = ob := by simpa using h
      subst h'
      exact ⟨p, by show (A.pl ++ [p])[_]? = _; rw [← s.len]; simp, .lst upd_same (RepL.mono e _ _ r)⟩
  · obtain ⟨⟨u, hu⟩, h2⟩ := s.fbt b hb
    refine ⟨⟨u, by rw [upd_ne (ne_of_none hu n)]; exact hu⟩, fun z => ?_⟩
    rcases List.mem_append.mp z with z | z
    · exact h2 z
    · rw [List.mem_singleton.mp z] at hu; rw [n] at hu; cases hu
/-- a place's list is changed -/
theorem Ext.wrote {p : Addr} {o : HO} (m : p ∈ A.pl) : Ext A H A (upd H p o) :=
  ⟨⟨[], by simp⟩, rfl, fun _ h1 h2 => absurd h1 h2, fun a u n h => by rw [upd_ne (by rintro rfl; exact n m)]; exact h⟩
theorem SRel.wrote {S : Store} (s : SRel K fa A H S) {n : Nat} {p : Addr} {xs : List V} {ds : List D} (hp : A.pl[n]? = some p) (r : RepL K fa A H xs ds) : SRel K fa A (upd H p (.lst xs)) (S.set n (.lst ds)) := by
  have e : Ext A H A (upd H p (.lst xs)) := Ext.wrote (List.mem_of_getElem? hp)
  refine ⟨by simp [s.len], s.nd, fun m ob h => ?_, fun b hb => ⟨let ⟨u, hu⟩ := (s.fbt b hb).1; ⟨u, by rw [upd_ne (by rintro rfl; exact (s.fbt _ hb).2 (List.mem_of_getElem? hp))]; exact hu⟩, (s.fbt b hb).2⟩⟩
  by_cases hm : n = m
  · subst hm
    have hn : n < S.length := by rw [← s.len]; exact (List.getElem?_eq_some_iff.mp hp).1
    rw [List.getElem?_set_self hn] at h
    cases h
    exact ⟨p, hp, .lst upd_same (RepL.mono e _ _ r)⟩
  · rw [List.getElem?_set_ne hm] at h
    obtain ⟨a, ea, ra⟩ := s.obj m ob h
    have hne : a ≠ p := by
      rintro rfl
      obtain ⟨h1, e1⟩ := List.getElem?_eq_some_iff.mp hp
      obtain ⟨h2, e2⟩ := List.getElem?_eq_some_iff.mp ea
      exact hm ((List.getElem_inj s.nd).mp (e1.trans e2.symm))
    exact ⟨a, ea, ra.carry (fun _ _ m => m) e.rep (upd_ne hne)⟩
/-! ### a list in the making: no value refers to it -/
def Pl.guard (A : Pl) (p : Addr) : Pl := ⟨A.pl, p :: A.fb⟩
theorem guard_rep {p : Addr} {o : HO} (n : H p = none) : ∀ a u, a ∉ A.pl → a ∉ A.fb → H a = some u → (upd H p o) a = some u ∧ a ∉ (A.guard p).pl ∧ a ∉ (A.guard p).fb := fun a u h1 h2 h =>
  have hne : a ≠ p := ne_of_none h n
  ⟨by rw [upd_ne hne]; exact h, h1, fun z => (List.mem_cons.mp z).elim hne h2⟩
theorem SRel.guard {S : Store} (s : SRel K fa A H S) {p : Addr} {o : HO} (n : H p = none) : SRel K fa (A.guard p) (upd H p o) S :=
  ⟨s.len, s.nd, fun m ob h => by
    obtain ⟨a, e, r⟩ := s.obj m ob h
    obtain ⟨u, hu⟩ := r.there
    exact ⟨a, e, RepO.carry (A := A) (A1 := A.guard p) (fun _ _ m => m) (guard_rep n) (upd_ne (ne_of_none hu n)) r⟩,
  fun b hb => by
    rcases List.mem_cons.mp hb with rfl | hb
    · exact ⟨⟨o, upd_same⟩, s.fresh n⟩
    · exact ⟨let ⟨u, hu⟩ := (s.fbt b hb).1; ⟨u, by rw [upd_ne (ne_of_none hu n)]; exact hu⟩, (s.fbt b hb).2⟩⟩
theorem GRel.guard (g : GRel K fa A H σ G) {p : Addr} {o : HO} (n : H p = none) : GRel K fa (A.guard p) (upd H p o) σ G :=
  ⟨g.1, fun i d h => let ⟨v, h1, h2⟩ := g.2 i d h; ⟨v, h1, Rep.carry (A := A) (A1 := A.guard p) (fun _ _ m => m) (guard_rep n) _ _ h2⟩⟩
theorem off_rep {p : Addr} {o : HO} (hp : p ∈ A.fb) : ∀ a u, a ∉ A.pl → a ∉ A.fb → H a = some u → (upd H p o) a = some u ∧ a ∉ A.pl ∧ a ∉ A.fb := fun a u h1 h2 h =>
  have hne : a ≠ p := by rintro rfl; exact h2 hp
  ⟨by rw [upd_ne hne]; exact h, h1, h2⟩
theorem SRel.off {S : Store} (s : SRel K fa A H S) {p : Addr} {o : HO} (hp : p ∈ A.fb) : SRel K fa A (upd H p o) S :=
  ⟨s.len, s.nd, fun m ob h => by
    obtain ⟨a, e, r⟩ := s.obj m ob h
    exact ⟨a, e, r.carry (fun _ _ m => m) (off_rep hp) (upd_ne (by rintro rfl; exact (s.fbt _ hp).2 (List.mem_of_getElem? e)))⟩,
  fun b hb => ⟨by
    by_cases hbp : b = p
    · subst hbp; exact ⟨o, upd_same⟩
    · obtain ⟨u, hu⟩ := (s.fbt b hb).1
      exact ⟨u, by rw [upd_ne hbp]; exact hu⟩, (s.fbt b hb).2⟩⟩
def Pl.bare (A : Pl) (l : List Addr) : Pl := ⟨A.pl, l⟩
theorem Rep.bare {l : List Addr} (hl : ∀ b ∈ l, b ∈ A.fb) (d : D) (v : V) (r : Rep K fa A H v d) : Rep K fa (A.bare l) H v d :=
  Rep.carry (A := A) (A1 := A.bare l) (fun _ _ m => m) (fun a o h1 h2 h => ⟨h, h1, fun z => h2 (hl a z)⟩) d v r
theorem RepL.bare {l : List Addr} (hl : ∀ b ∈ l, b ∈ A.fb) (ds : List D) (vs : List V) (r : RepL K fa A H vs ds) : RepL K fa (A.bare l) H vs ds :=
  RepL.carry (A := A) (A1 := A.bare l) (fun _ _ m => m) (fun a o h1 h2 h => ⟨h, h1, fun z => h2 (hl a z)⟩) ds vs r
theorem SRel.bare {S : Store} {l : List Addr} (hl : ∀ b ∈ l, b ∈ A.fb) (s : SRel K fa A H S) : SRel K fa (A.bare l) H S :=
  ⟨s.len, s.nd, fun m ob h => by
    obtain ⟨a, e, r⟩ := s.obj m ob h
    exact ⟨a, e, RepO.carry (A := A) (A1 := A.bare l) (fun _ _ m => m) (fun a o h1 h2 h => ⟨h, h1, fun z => h2 (hl a z)⟩) rfl r⟩, fun b hb => s.fbt b (hl b hb)⟩

/-- an exception: its class, its own dict -/
def RepX (K : PySem.W.Frag) (fa : Nat → Addr) (ca : Nat → Addr) (A : Pl) (H : Hp) (c : Value) (d : Option Addr) (x : Xc) : Prop :=
  c = .ref (ca x.cls) ∧ match d with
  | none => x.fs = []
  | some a => ∃ fs, H a = some (.xd fs) ∧ a ∉ A.pl ∧ a ∉ A.fb ∧ fs.map (·.1) = x.fs.map (·.1) ∧ RepL K fa A H (fs.map (·.2)) (x.fs.map (·.2))
/-- what must hold behind an answer -/
def RPost {α β : Type} (K : PySem.W.Frag) (fa ca : Nat → Addr) (rep : Pl → Hp → β → α → Prop) (r : R α) (A : Pl) (H : Hp) (Q : β → Hp → Prop) (W : Value → Option Addr → Hp → Prop) : Prop :=
  match r with
  | .ok a S => ∀ v H' A', Ext A H A' H' → SRel K fa A' H' S → rep A' H' v a → Q v H'
  | .exc x S => ∀ c d H' A', Ext A H A' H' → SRel K fa A' H' S → RepX K fa ca A' H' c d x → W c d H'
  | .bad => False
theorem RPost.mono {α β : Type} {ca : Nat → Addr} {rep : Pl → Hp → β → α → Prop} {r : R α} {Q : β → Hp → Prop} {W : Value → Option Addr → Hp → Prop} (h : RPost K fa ca rep r A H Q W) (e : Ext A H A1 H1) : RPost K fa ca rep r A1 H1 Q W := by
  cases r with
  | ok a S => exact fun v H' A' e' s r => h v H' A' (e.trans e') s r
  | exc x S => exact fun c d H' A' e' s r => h c d H' A' (e.trans e') s r
  | bad => exact h
theorem RPost.bind {α β γ δ : Type} {ca : Nat → Addr} {rep : Pl → Hp → β → α → Prop} {rep2 : Pl → Hp → δ → γ → Prop} {r : R α} {f : α → Store → R γ} {Q : δ → Hp → Prop} {W : Value → Option Addr → Hp → Prop} (h : RPost K fa ca rep2 (r.bind f) A H Q W) :
    RPost K fa ca rep r A H (fun v H1 => ∃ A1 a S1, Ext A H A1 H1 ∧ SRel K fa A1 H1 S1 ∧ rep A1 H1 v a ∧ RPost K fa ca rep2 (f a S1) A1 H1 Q W) W := by
  cases r with
  | ok a S => exact fun v H' A' e s r => ⟨A', a, S, e, s, r, RPost.mono h e⟩
  | exc x S => exact h
  | bad => exact h
end NW
end
section
/- The operations, by values. -/
namespace NW
open PySem PySem.Spec L2
variable {K : PySem.W.Frag} {fa : Nat → Addr} {A A1 A2 A' : Pl} {H H1 H2 H' : Hp} {σ : L2.St} {G : Env} {Sx : Store}

/-! ### plain data -/
mutual
theorem D.lay : ∀ d : D, d.ok = true → d.py.canLay0 = true
  | .non, _ => by simp only [D.py, PyData.canLay0]
  | .bl _, _ => by simp only [D.py, PyData.canLay0]
  | .int _, _ => by simp only [D.py, PyData.canLay0]
  | .str x, h => by simp only [D.ok] at h; simp only [D.py, PyData.canLay0]; exact h
  | .tup ds, h => by simp only [D.ok] at h; simp only [D.py, PyData.canLay0]; exact D.layL ds h
  | .lst ds, h => by simp only [D.ok] at h; simp only [D.py, PyData.canLay0]; exact D.layL ds h
  | .loc _, h => by simp only [D.ok] at h; cases h
  | .fn _, h => by simp only [D.ok] at h; cases h
  | .scr _, h => by simp only [D.ok] at h; cases h
theorem D.layL : ∀ ds : List D, D.okL ds = true → PyData.canLayAll0 (D.pyL ds) = true
  | [], _ => by simp only [D.pyL, PyData.canLayAll0]
  | d :: ds, h => by
    simp only [D.okL, Bool.and_eq_true] at h
    simp only [D.pyL, PyData.canLayAll0, Bool.and_eq_true]
    exact ⟨D.lay d h.1, D.layL ds h.2⟩
end
mutual
theorem D.dep : ∀ d : D, d.py.depth = d.depth
  | .non => by simp only [D.py, PyData.depth, D.depth]
  | .bl _ => by simp only [D.py, PyData.depth, D.depth]
  | .int _ => by simp only [D.py, PyData.depth, D.depth]
  | .str x => by simp only [D.py, PyData.depth, D.depth]
  | .tup ds => by simp only [D.py, PyData.depth, D.depth, D.depL ds]
  | .lst ds => by simp only [D.py, PyData.depth, D.depth, D.depL ds]
  | .loc _ => by simp only [D.py, PyData.depth, D.depth]
  | .fn _ => by simp only [D.py, PyData.depth, D.depth]
  | .scr _ => by simp only [D.py, PyData.depth, D.depth]
theorem D.depL : ∀ ds : List D, PyData.depthAll (D.pyL ds) = D.depthL ds
  | [] => by simp only [D.pyL, PyData.depthAll, D.depthL]
  | d :: ds => by simp only [D.pyL, PyData.depthAll, D.depthL, D.dep d, D.depL ds]
end
mutual
theorem D.eqs : ∀ a b : D, a.ok = true → b.ok = true → PyData.eqv a.py b.py = D.eqv a b
  | a, .loc _, _, h => by simp only [D.ok] at h; cases h
  | a, .fn _, _, h => by simp only [D.ok] at h; cases h
  | a, .scr _, _, h => by simp only [D.ok] at h; cases h
  | .loc _, b, h, _ => by simp only [D.ok] at h; cases h
  | .fn _, b, h, _ => by simp only [D.ok] at h; cases h
  | .scr _, b, h, _ => by simp only [D.ok] at h; cases h
  | .non, b, _, h => by cases b <;> first | (simp only [D.ok] at h; cases h; done) | simp only [D.py, PyData.eqv, D.eqv]
  | .bl _, b, _, h => by cases b <;> first | (simp only [D.ok] at h; cases h; done) | simp only [D.py, PyData.eqv, D.eqv]
  | .int _, b, _, h => by cases b <;> first | (simp only [D.ok] at h; cases h; done) | simp only [D.py, PyData.eqv, D.eqv]
  | .str x, b, _, h => by cases b <;> first | (simp only [D.ok] at h; cases h; done) | simp only [D.py, PyData.eqv, D.eqv]
  | .tup xs, .tup ys, h, h2 => by
    simp only [D.ok] at h h2
    simp only [D.py, PyData.eqv, D.eqv]
    exact D.eqsL xs ys h h2
  | .lst xs, .lst ys, h, h2 => by
    simp only [D.ok] at h h2
    simp only [D.py, PyData.eqv, D.eqv]
    exact D.eqsL xs ys h h2
  | .tup xs, .non, _, _ => by simp only [D.py, PyData.eqv, D.eqv]
  | .tup xs, .bl _, _, _ => by simp only [D.py, PyData.eqv, D.eqv]
  | .tup xs, .int _, _, _ => by simp only [D.py, PyData.eqv, D.eqv]
  | .tup xs, .str _, _, _ => by simp only [D.py, PyData.eqv, D.eqv]
  | .tup xs, .lst _, _, _ => by simp only [D.py, PyData.eqv, D.eqv]
  | .lst xs, .non, _, _ => by simp only [D.py, PyData.eqv, D.eqv]
  | .lst xs, .bl _, _, _ => by simp only [D.py, PyData.eqv, D.eqv]
  | .lst xs, .int _, _, _ => by simp only [D.py, PyData.eqv, D.eqv]
  | .lst xs, .str _, _, _ => by simp only [D.py, PyData.eqv, D.eqv]
  | .lst xs, .tup _, _, _ => by simp only [D.py, PyData.eqv, D.eqv]
theorem D.eqsL : ∀ xs ys : List D, D.okL xs = true → D.okL ys = true → PyData.eqvAll (D.pyL xs) (D.pyL ys) = D.eqvL xs ys
  | [], [], _, _ => by simp only [D.pyL, PyData.eqvAll, D.eqvL]
  | [], _ :: _, _, _ => by simp only [D.pyL, PyData.eqvAll, D.eqvL]
  | _ :: _, [], _, _ => by simp only [D.pyL, PyData.eqvAll, D.eqvL]
  | x :: xs, y :: ys, h, h2 => by
    simp only [D.okL, Bool.and_eq_true] at h h2
    simp only [D.pyL, PyData.eqvAll, D.eqvL]
    rw [D.eqs x y h.1 h2.1, D.eqsL xs ys h.2 h2.2]
end
mutual
theorem Rep.dp : ∀ (d : D) (v : V), d.ok = true → Rep K fa A H v d → Dp K H v d.py
  | .non, _, _, h => by cases h; simp only [D.py]; exact .non
  | .bl b, _, _, h => by cases h; simp only [D.py]; exact .bl b
  | .int i, _, _, h => by cases h; simp only [D.py]; exact .int i
  | .str x, _, _, h => by cases h; simp only [D.py]; exact .str x
  | .tup ds, _, q, h => by
    simp only [D.ok] at q
    simp only [D.py]
    cases h with
    | tup h n m r => exact .tup (SqT.of h) (RepL.dp ds _ q r)
    | ktup k r => exact .tup (.inr k) (RepL.dp ds _ q r)
  | .lst ds, _, q, h => by
    simp only [D.ok] at q
    simp only [D.py]
    cases h with
    | lst h n m r => exact .lst (SqL.of h) (RepL.dp ds _ q r)
  | .loc _, _, q, _ => by simp only [D.ok] at q; cases q
  | .fn _, _, q, _ => by simp only [D.ok] at q; cases q
  | .scr _, _, q, _ => by simp only [D.ok] at q; cases q
theorem RepL.dp : ∀ (ds : List D) (vs : List V), D.okL ds = true → RepL K fa A H vs ds → DpAll K H vs (D.pyL ds)
  | [], _, _, h => by cases h; simp only [D.pyL]; exact .nil
  | d :: ds, _, q, h => by
    simp only [D.okL, Bool.and_eq_true] at q
    simp only [D.pyL]
    cases h with
    | cons h1 h2 => exact .cons (Rep.dp d _ q.1 h1) (RepL.dp ds _ q.2 h2)
end
theorem pyL_any (d : D) (hd : d.ok = true) : ∀ ds : List D, D.okL ds = true → ((D.pyL ds).any fun z => PyData.eqv z d.py) = ds.any fun z => D.eqv z d
  | [], _ => rfl
  | x :: xs, h => by
    simp only [D.okL, Bool.and_eq_true] at h
    simp only [D.pyL, List.any_cons, D.eqs x d h.1 hd, pyL_any d hd xs h.2]

/-! ### lists and tuples -/
theorem listOf_rep {S : Store} (s : SRel K fa A H S) {v : V} {d : D} {ds : List D} (r : Rep K fa A H v d) (e : listOf S d = some ds) : ∃ a xs, v = .ref a ∧ H a = some (.lst xs) ∧ RepL K fa A H xs ds := by
  cases r with
  | lst h n m r => cases e; exact ⟨_, _, rfl, h, r⟩
  | loc m =>
    rename_i a n
    simp only [listOf] at e
    split at e
    · rename_i ds' hn
      cases e
      obtain ⟨a', ea, ro⟩ := s.obj n _ hn
      rw [m] at ea; cases ea
      cases ro with
      | lst q r => exact ⟨_, _, rfl, q, r⟩
    · cases e
  | non => cases e
  | bl => cases e
  | int => cases e
  | str => cases e
  | tup _ _ _ _ => cases e
  | ktup _ _ => cases e
  | fn => cases e
  | scr _ _ _ => cases e
  | kscr _ => cases e
theorem seqOf_rep {S : Store} (s : SRel K fa A H S) {v : V} {d : D} {ds : List D} (r : Rep K fa A H v d) (e : seqOf S d = some ds) : ∃ a xs, v = .ref a ∧ (SqL K H a xs ∨ SqT K H a xs) ∧ RepL K fa A H xs ds := by
  cases r with
  | tup h n m r => cases e; exact ⟨_, _, rfl, .inr (SqT.of h), r⟩
  | ktup k r => cases e; exact ⟨_, _, rfl, .inr (.inr k), r⟩
  | scr h n m => cases e; exact ⟨_, _, rfl, .inl (.inl h), RepL.ints _⟩
  | kscr k => cases e; exact ⟨_, _, rfl, .inl (.inr k), RepL.ints _⟩
  | lst h n m r => cases e; exact ⟨_, _, rfl, .inl (SqL.of h), r⟩
  | loc m =>
    obtain ⟨a, xs, e1, e2, e3⟩ := listOf_rep s (.loc m) (show listOf S (.loc _) = some ds from e)
    exact ⟨a, xs, e1, .inl (SqL.of e2), e3⟩
  | non => cases e
  | bl => cases e
  | int => cases e
  | str => cases e
  | fn => cases e
theorem flat_rep {S : Store} (s : SRel K fa A H S) {v : V} {d : D} (r : Rep K fa A H v d) (q : (flat S d).ok = true) : Dp K H v (flat S d).py := by
  cases d with
  | loc n =>
    simp only [flat] at q ⊢
    split at q
    · rename_i ds hn
      obtain ⟨a, xs, rfl, h, rr⟩ := listOf_rep (ds := ds) s r (by simp only [listOf, hn])
      simp only [D.ok] at q
      simp only [D.py]
      exact .lst (SqL.of h) (RepL.dp ds _ q rr)
    · simp only [D.ok] at q; cases q
  | non => exact Rep.dp _ _ q r
  | bl => exact Rep.dp _ _ q r
  | int => exact Rep.dp _ _ q r
  | str => exact Rep.dp _ _ q r
  | tup => exact Rep.dp _ _ q r
  | lst => exact Rep.dp _ _ q r
  | fn => exact Rep.dp _ _ q r
  | scr => exact Rep.dp _ _ q r
theorem line_eq : lineN = sizeLine := by rw [sizeLine_eq]; rfl

/-- the answer is d, nothing else changed -/
def Ans (K : PySem.W.Frag) (fa : Nat → Addr) (A : Pl) (H : Hp) (S : Store) (d : D) (Q : VK) : Prop := ∀ v H', Ext A H A H' → SRel K fa A H' S → Rep K fa A H' v d → Q v H'
theorem Ans.here {S : Store} {d : D} {Q : VK} (q : Ans K fa A H S d Q) (s : SRel K fa A H S) {v : V} (r : Rep K fa A H v d) : Q v H := q v H Ext.refl s r
theorem Ans.lst {S : Store} {ds : List D} {Q : VK} (q : Ans K fa A H S (.lst ds) Q) (s : SRel K fa A H S) {xs : List V} (r : RepL K fa A H xs ds) {p : Addr} (n : H p = none) : Q (.ref p) (upd H p (.lst xs)) :=
  q _ _ (Ext.laid s n) (s.laid n) (.lst upd_same (s.fresh n) (s.freshB n) (RepL.mono (Ext.laid s n) _ _ r))
theorem Ans.tup {S : Store} {ds : List D} {Q : VK} (q : Ans K fa A H S (.tup ds) Q) (s : SRel K fa A H S) {xs : List V} (r : RepL K fa A H xs ds) {p : Addr} (n : H p = none) : Q (.ref p) (upd H p (.tup xs)) :=
  q _ _ (Ext.laid s n) (s.laid n) (.tup upd_same (s.fresh n) (s.freshB n) (RepL.mono (Ext.laid s n) _ _ r))
theorem tup_sq {v : V} {ds : List D} (r : Rep K fa A H v (.tup ds)) : ∃ a xs, v = .ref a ∧ SqT K H a xs ∧ RepL K fa A H xs ds := by
  cases r with
  | tup h n m r => exact ⟨_, _, rfl, SqT.of h, r⟩
  | ktup k r => exact ⟨_, _, rfl, .inr k, r⟩

def rBin (K : PySem.W.Frag) (fa : Nat → Addr) (op : Operator) : R2 := fun x y H Q => ∃ A S a b d, SRel K fa A H S ∧ Rep K fa A H x a ∧ Rep K fa A H y b ∧ binOp op S a b = some d ∧ Ans K fa A H S d Q
section
variable {X : Cx}
theorem op_bin (op : Operator) : OpR X (binaryOp op) (rBin X.K fa op) := by
  intro pins s σ H x y v u Q I rx ry h
  obtain ⟨A, S, a, b, d, sr, ra, rb, e, q⟩ := h
  unfold binOp at e
  split at e
  · rename_i i j
    obtain ⟨r, hr, rfl⟩ := Option.map_eq_some_iff.mp e
    cases ra
    cases rb
    have fin : Q (.int r) H := q.here sr (.int r)
    cases op with
    | Add => simp only [binInt] at hr; cases hr; exact op_add pins s σ H _ _ v u Q I rx ry ⟨i, j, rfl, rfl, fin⟩
    | Sub => simp only [binInt] at hr; cases hr; exact op_sub pins s σ H _ _ v u Q I rx ry ⟨i, j, rfl, rfl, fin⟩
    | Mult =>
      simp only [binInt] at hr
      split at hr
      · rename_i hm
        cases hr
        unfold mulOk at hm
        simp only [Bool.or_eq_true, decide_eq_true_eq] at hm
        rcases hm with hm | hm | hm
        · exact op_mul pins s σ H _ _ v u Q I rx ry ⟨i, j, rfl, rfl, .inl hm, fin⟩
        · exact op_mul pins s σ H _ _ v u Q I rx ry ⟨i, j, rfl, rfl, .inr hm, fin⟩
        · exact op_mulW pins s σ H _ _ v u Q I rx ry ⟨i, j, rfl, rfl, hm, fin⟩
      · cases hr
    | FloorDiv =>
      simp only [binInt] at hr
      split at hr
      · rename_i hm
        cases hr
        unfold divOk at hm
        simp only [Bool.or_eq_true, Bool.and_eq_true, decide_eq_true_eq] at hm
        rcases hm with ⟨h0, hm | hm⟩
        · exact op_fdiv pins s σ H _ _ v u Q I rx ry ⟨i, j, rfl, rfl, ⟨h0, hm⟩, fin⟩
        · exact op_fdivW pins s σ H _ _ v u Q I rx ry ⟨i, j, rfl, rfl, ⟨h0, hm⟩, fin⟩
      · cases hr
    | Mod =>
      simp only [binInt] at hr
      split at hr
      · rename_i hm
        cases hr
        exact op_mod pins s σ H _ _ v u Q I rx ry ⟨i, j, rfl, rfl, hm, fin⟩
      · cases hr
    | Pow =>
      simp only [binInt] at hr
      split at hr
      · rename_i hm
        cases hr
        exact op_pow pins s σ H _ _ v u Q I rx ry ⟨i, j, rfl, rfl, (by unfold powOk at hm; have hm := of_decide_eq_true hm; exact hm), fin⟩
      · cases hr
    | LShift =>
      simp only [binInt] at hr
      split at hr
      · rename_i hm
        cases hr
        exact op_shl pins s σ H _ _ v u Q I rx ry ⟨i, j, rfl, rfl, (by unfold powOk at hm; have hm := of_decide_eq_true hm; exact hm), fin⟩
      · cases hr
    | RShift =>
      simp only [binInt] at hr
      split at hr
      · rename_i hm
        cases hr
        exact op_shr pins s σ H _ _ v u Q I rx ry ⟨i, j, rfl, rfl, hm, fin⟩
      · cases hr
    | BitAnd => simp only [binInt] at hr; cases hr; exact op_and pins s σ H _ _ v u Q I rx ry ⟨i, j, rfl, rfl, fin⟩
    | BitOr => simp only [binInt] at hr; cases hr; exact op_or pins s σ H _ _ v u Q I rx ry ⟨i, j, rfl, rfl, fin⟩
    | BitXor => simp only [binInt] at hr; cases hr; exact op_xor pins s σ H _ _ v u Q I rx ry ⟨i, j, rfl, rfl, fin⟩
    | Div => simp only [binInt] at hr; cases hr
    | MatMult => simp only [binInt] at hr; cases hr
  · rename_i xs ys
    unfold binTup at e
    split at e
    · split at e
      · rename_i hz
        cases e
        obtain ⟨a, vx, rfl, hx, rx'⟩ := tup_sq ra
        obtain ⟨b, vy, rfl, hy, ry'⟩ := tup_sq rb
        refine op_catA pins s σ H _ _ v u Q I rx ry ⟨a, b, vx, vy, rfl, rfl, hx, hy, ?_, fun e => ?_, fun _ e => ?_, fun _ _ p hp => q.tup sr (rx'.append ry') hp⟩
        · rw [rx'.length, ry'.length, ← line_eq]; exact hz
        · subst e
          have : xs = [] := by cases xs with | nil => rfl | cons _ _ => cases rx'
          subst this
          exact q.here sr rb
        · subst e
          have : ys = [] := by cases ys with | nil => rfl | cons _ _ => cases ry'
          subst this
          rw [List.append_nil] at q
          exact q.here sr ra
      · cases e
    · cases e
  · rename_i xs k
    split at e
    · rename_i hop
      subst hop
      unfold repTup at e
      split at e
      · rename_i hc
        cases e
        obtain ⟨a, vx, rfl, hx, rx'⟩ := tup_sq ra
        cases rb
        refine op_repT pins s σ H _ _ v u Q I rx ry ⟨a, k, vx, rfl, rfl, hx, ?_, hc.2.1, hc.2.2.1, ?_, fun p hp => q.tup sr (rx'.rep _) hp⟩
        · rintro rfl
          cases rx'
          exact hc.1 rfl
        · rw [rx'.length]; exact hc.2.2.2
      · cases e
    · cases e
  · rename_i z1 z2
    split at e
    · rename_i hc
      obtain ⟨hop, hz⟩ := hc
      subst hop
      cases e
      cases ra
      cases rb
      exact op_add_str pins s σ H _ _ v u Q I rx ry ⟨z1, z2, rfl, rfl, by rw [← line_eq]; exact hz, q.here sr (.str _)⟩
    · cases e
  · rename_i k _ _
    split at e
    · rename_i hop
      subst hop
      obtain ⟨ds, hd, e⟩ := Option.bind_eq_some_iff.mp e
      unfold repLst at e
      split at e
      · rename_i hc
        cases e
        obtain ⟨l, xs, rfl, hl, rl⟩ := listOf_rep sr ra hd
        cases rb
        refine op_rep pins s σ H _ _ v u Q I rx ry ⟨l, k, xs, rfl, rfl, hl, by omega, by omega, ?_, fun p hp => q.lst sr (rl.rep _) hp⟩
        rw [rl.length, ← line_eq]; exact hc.2.2
      · cases e
    · cases e
  · obtain ⟨ds, hd, e⟩ := Option.bind_eq_some_iff.mp e
    obtain ⟨es, he, e⟩ := Option.bind_eq_some_iff.mp e
    unfold binLst at e
    split at e
    · split at e
      · rename_i hz
        cases e
        obtain ⟨l, xs, rfl, hl, rl⟩ := listOf_rep sr ra hd
        obtain ⟨m, ys, rfl, hm, rm⟩ := listOf_rep sr rb he
        exact op_cat pins s σ H _ _ v u Q I rx ry ⟨l, m, xs, ys, rfl, rfl, hl, hm, by rw [rl.length, rm.length, ← line_eq]; exact hz, fun p hp => q.lst sr (rl.append rm) hp⟩
      · cases e
    · cases e

/-! ### comparisons -/
def rCmp (K : PySem.W.Frag) (fa : Nat → Addr) (op : CmpOp) : R2 := fun x y H Q => ∃ A S a b k, SRel K fa A H S ∧ Rep K fa A H x a ∧ Rep K fa A H y b ∧ cmpOp op S a b = some k ∧ Q (.bl k) H
theorem room_eq {A : Around} {a b : D} (hu : A.units + 200 < cLine) (h : min a.depth b.depth ≤ 100) : A.units + min a.py.depth b.py.depth < cLine := by
  rw [D.dep, D.dep]; omega
theorem dp_in {v : V} {ds : List D} {S : Store} {d : D} (s : SRel K fa A H S) (r : Rep K fa A H v d) (e : seqOf S d = some ds) (q : D.okL ds = true) : Dp K H v (.list (D.pyL ds)) ∨ Dp K H v (.tuple (D.pyL ds)) := by
  obtain ⟨a, xs, rfl, h | h, r⟩ := seqOf_rep s r e
  · exact .inl (.lst h (RepL.dp ds _ q r))
  · exact .inr (.tup h (RepL.dp ds _ q r))
theorem isNone_rep {v : V} {d : D} (r : Rep K fa A H v d) : decide (v = .non) = isNone d := by cases r <;> rfl
theorem op_is_bl' : OpR X (compareOp .Is) (fun x y H Q => ∃ a b, x = .bl a ∧ y = .bl b ∧ Q (.bl (decide (a = b))) H) := by
  intro pins s σ H x y v u Q I rx ry h
  obtain ⟨a, b, rfl, rfl, q⟩ := h
  cases rx; cases ry
  have fin : EP X pins σ Q (.bool (decide (a = b))) s := ⟨.bl _, H, I, rfl, q⟩
  cases a <;> cases b <;> exact wpAny_pure fin
theorem op_isnot_bl' : OpR X (compareOp .IsNot) (fun x y H Q => ∃ a b, x = .bl a ∧ y = .bl b ∧ Q (.bl (!decide (a = b))) H) := by
  intro pins s σ H x y v u Q I rx ry h
  obtain ⟨a, b, rfl, rfl, q⟩ := h
  cases rx; cases ry
  have fin : EP X pins σ Q (.bool (!decide (a = b))) s := ⟨.bl _, H, I, rfl, q⟩
  cases a <;> cases b <;> exact wpAny_pure fin
theorem int_cmp {a b : D} {op : CmpOp} {k : Bool} (h : ordOp op a b = some k) : ∃ i j, a = .int i ∧ b = .int j ∧ cmpInt op i j = some k := by
  unfold ordOp at h
  split at h
  · exact ⟨_, _, rfl, rfl, h⟩
  · cases h
theorem op_cmp (op : CmpOp) (hu : X.A.units + 200 < cLine) : OpR X (compareOp op) (rCmp X.K fa op) := by
  intro pins s σ H x y v u Q I rx ry h
  obtain ⟨A, S, a, b, k, sr, ra, rb, e, q⟩ := h
  have fin : EP X pins σ Q (.bool k) s := ⟨.bl k, H, I, rfl, q⟩
  cases op with
  | Eq =>
    simp only [cmpOp] at e
    split at e
    · rename_i hk
      cases e
      unfold eqOk at hk
      simp only [Bool.and_eq_true, decide_eq_true_eq] at hk
      obtain ⟨as, r1⟩ := Dp.reads I _ x v (flat_rep sr ra hk.1.1) rx
      obtain ⟨bs, r2⟩ := Dp.reads I _ y u (flat_rep sr rb hk.1.2) ry
      refine SeqAt.compareEq_reads r1 r2 (D.lay _ hk.1.1) (D.lay _ hk.1.2) (room_eq hu hk.2) ?_
      rw [D.eqs _ _ hk.1.1 hk.1.2]
      exact fin
    · cases e
  | NotEq =>
    simp only [cmpOp] at e
    split at e
    · rename_i hk
      cases e
      unfold eqOk at hk
      simp only [Bool.and_eq_true, decide_eq_true_eq] at hk
      obtain ⟨as, r1⟩ := Dp.reads I _ x v (flat_rep sr ra hk.1.1) rx
      obtain ⟨bs, r2⟩ := Dp.reads I _ y u (flat_rep sr rb hk.1.2) ry
      refine SeqAt.compareNe_reads r1 r2 (D.lay _ hk.1.1) (D.lay _ hk.1.2) (room_eq hu hk.2) ?_
      rw [D.eqs _ _ hk.1.1 hk.1.2]
      exact fin
    · cases e
  | In =>
    simp only [cmpOp] at e
    obtain ⟨ds, hd, e⟩ := Option.bind_eq_some_iff.mp e
    split at e
    · rename_i hk
      cases e
      unfold inOk at hk
      simp only [Bool.and_eq_true, decide_eq_true_eq] at hk
      obtain ⟨as, r1⟩ := Dp.reads I _ x v (flat_rep sr ra hk.1.1) rx
      have hroom : X.A.units + 1 + min (PyData.depthAll (D.pyL ds)) (flat S a).py.depth < cLine := by
        rw [D.depL, D.dep]; omega
      rw [← pyL_any _ hk.1.1 ds hk.1.2] at fin
      rcases dp_in sr rb hd hk.1.2 with h2 | h2
      · obtain ⟨bs, r2⟩ := Dp.reads I _ y u h2 ry
        exact SeqAt.in_list_reads r2 r1 (D.layL _ hk.1.2) (D.lay _ hk.1.1) hroom fin
      · obtain ⟨bs, r2⟩ := Dp.reads I _ y u h2 ry
        exact SeqAt.in_tuple_reads r2 r1 (D.layL _ hk.1.2) (D.lay _ hk.1.1) hroom fin
    · cases e
  | NotIn =>
    simp only [cmpOp] at e
    obtain ⟨ds, hd, e⟩ := Option.bind_eq_some_iff.mp e
    split at e
    · rename_i hk
      cases e
      unfold inOk at hk
      simp only [Bool.and_eq_true, decide_eq_true_eq] at hk
      obtain ⟨as, r1⟩ := Dp.reads I _ x v (flat_rep sr ra hk.1.1) rx
      have hroom : X.A.units + 1 + min (PyData.depthAll (D.pyL ds)) (flat S a).py.depth < cLine := by
        rw [D.depL, D.dep]; omega
      rw [← pyL_any _ hk.1.1 ds hk.1.2] at fin
      rcases dp_in sr rb hd hk.1.2 with h2 | h2
      · obtain ⟨bs, r2⟩ := Dp.reads I _ y u h2 ry
        exact SeqAt.notIn_list_reads r2 r1 (D.layL _ hk.1.2) (D.lay _ hk.1.1) hroom fin
      · obtain ⟨bs, r2⟩ := Dp.reads I _ y u h2 ry
        exact SeqAt.notIn_tuple_reads r2 r1 (D.layL _ hk.1.2) (D.lay _ hk.1.1) hroom fin
    · cases e
  | Is =>
    simp only [cmpOp] at e
    split at e
    · cases e
      cases rb
      exact op_isN pins s σ H _ _ v u Q I rx ry ⟨rfl, by rw [isNone_rep ra]; exact q⟩
    · rename_i y'
      obtain ⟨z, hz, rfl⟩ := Option.map_eq_some_iff.mp e
      cases rb
      cases ra <;> simp only [isBl] at hz <;> first | (cases hz; done) | skip
      cases hz
      exact op_is_bl' pins s σ H _ _ v u Q I rx ry ⟨_, _, rfl, rfl, q⟩
    · cases e
  | IsNot =>
    simp only [cmpOp] at e
    split at e
    · cases e
      cases rb
      exact op_notN pins s σ H _ _ v u Q I rx ry ⟨rfl, by rw [isNone_rep ra]; exact q⟩
    · rename_i y'
      obtain ⟨z, hz, rfl⟩ := Option.map_eq_some_iff.mp e
      cases rb
      cases ra <;> simp only [isBl] at hz <;> first | (cases hz; done) | skip
      cases hz
      exact op_isnot_bl' pins s σ H _ _ v u Q I rx ry ⟨_, _, rfl, rfl, q⟩
    · cases e
  | Lt =>
    obtain ⟨i, j, rfl, rfl, h⟩ := int_cmp (op := .Lt) (by simpa only [cmpOp] using e)
    cases ra; cases rb
    simp only [cmpInt, Option.some.injEq] at h
    subst h
    exact op_lt pins s σ H _ _ v u Q I rx ry ⟨i, j, rfl, rfl, q⟩
  | LtE =>
    obtain ⟨i, j, rfl, rfl, h⟩ := int_cmp (op := .LtE) (by simpa only [cmpOp] using e)
    cases ra; cases rb
    simp only [cmpInt, Option.some.injEq] at h
    subst h
    exact op_le pins s σ H _ _ v u Q I rx ry ⟨i, j, rfl, rfl, q⟩
  | Gt =>
    obtain ⟨i, j, rfl, rfl, h⟩ := int_cmp (op := .Gt) (by simpa only [cmpOp] using e)
    cases ra; cases rb
    simp only [cmpInt, Option.some.injEq] at h
    subst h
    exact op_gt pins s σ H _ _ v u Q I rx ry ⟨i, j, rfl, rfl, q⟩
  | GtE =>
    obtain ⟨i, j, rfl, rfl, h⟩ := int_cmp (op := .GtE) (by simpa only [cmpOp] using e)
    cases ra; cases rb
    simp only [cmpInt, Option.some.injEq] at h
    subst h
    exact op_ge pins s σ H _ _ v u Q I rx ry ⟨i, j, rfl, rfl, q⟩

/-! ### isinstance -/
def Ty.nm : Ty → String
  | .int => "int"
  | .bool => "bool"
  | .str => "str"
  | .tuple => "tuple"
  | .list => "list"
theorem ty_rep {S : Store} (s : SRel K fa A H S) {v : V} {d : D} (r : Rep K fa A H v d) {b : Bool} {t : Ty} (e : isi S d t = some b) : ∃ n : String, TyX K H v (.type n) ∧ kitB n t.nm = some b := by
  unfold isi at e
  cases d with
  | loc n =>
    simp only [flat] at e
    split at e
    all_goals rename_i hd
    all_goals (split at hd <;> first | (cases hd; done) | skip)
    all_goals try (cases e; done)
    rename_i ds hn
    cases hd
    obtain ⟨a, xs, rfl, h, rr⟩ := listOf_rep s r (by simp only [listOf, hn]; rfl)
    cases e
    refine ⟨"list", .base (.lst h), ?_⟩
    cases t <;> decide +kernel
  | non =>
    cases r
    simp only [flat, Option.some.injEq] at e
    subst e
    refine ⟨"NoneType", .base .non, ?_⟩
    cases t <;> decide +kernel
  | bl x =>
    cases r
    simp only [flat, Option.some.injEq] at e
    subst e
    refine ⟨"bool", .base (.bl x), ?_⟩
    cases t <;> decide +kernel
  | int i =>
    cases r
    simp only [flat, Option.some.injEq] at e
    subst e
    refine ⟨"int", .base (.int i), ?_⟩
    cases t <;> decide +kernel
  | str x =>
    cases r
    simp only [flat, Option.some.injEq] at e
    subst e
    refine ⟨"str", .base (.str x), ?_⟩
    cases t <;> decide +kernel
  | tup ds =>
    simp only [flat, Option.some.injEq] at e
    subst e
    cases r with
    | tup h _ _ _ =>
      refine ⟨"tuple", .base (.tup h), ?_⟩
      cases t <;> decide +kernel
    | ktup k _ =>
      obtain ⟨o, its, n, h1, h2, _⟩ := k
      refine ⟨"tuple", .kTuple h1 h2, ?_⟩
      cases t <;> decide +kernel
  | lst ds =>
    simp only [flat, Option.some.injEq] at e
    subst e
    cases r with
    | lst h _ _ _ =>
      refine ⟨"list", .base (.lst h), ?_⟩
      cases t <;> decide +kernel
  | fn f => simp only [flat] at e; cases e
  | scr f => simp only [flat] at e; cases e

/-! ### items, slices -/
theorem atD_V {xs : List V} {ds : List D} (r : RepL K fa A H xs ds) {i : Int} {d : D} (e : atD ds i = some d) : ∃ v, atI xs i = some v ∧ Rep K fa A H v d := by
  unfold atD at e
  obtain ⟨j, h1, h2⟩ := Option.bind_eq_some_iff.mp e
  obtain ⟨v, h3, h4⟩ := r.get h2
  refine ⟨v, ?_, h4⟩
  unfold atI
  have hj : ixN xs.length i = some j := by
    rw [r.length]; exact h1
  rw [hj, Option.bind_some]
  exact h3
def rIdx (K : PySem.W.Frag) (fa : Nat → Addr) : R2 := fun x y H Q => ∃ A S a b d, SRel K fa A H S ∧ Rep K fa A H x a ∧ Rep K fa A H y b ∧ idxOp S a b = some d ∧ Ans K fa A H S d Q
theorem ix_all : IxR X (rIdx X.K fa) := by
  intro value slice pins s σ H x y v u Q I rx ry h
  obtain ⟨A, S, a, b, d, sr, ra, rb, e, q⟩ := h
  unfold idxOp at e
  split at e
  · rename_i k
    obtain ⟨ds, hd, e⟩ := Option.bind_eq_some_iff.mp e
    obtain ⟨l, xs, rfl, hl, rl⟩ := seqOf_rep sr ra hd
    cases rb
    obtain ⟨w, hw, rw'⟩ := atD_V rl e
    rcases hl with hl | hl
    · exact ix_list (value := value) (slice := slice) pins s σ H _ _ v u Q I rx ry ⟨l, xs, k, w, rfl, rfl, hl, hw, q.here sr rw'⟩
    · exact ix_tup (value := value) (slice := slice) pins s σ H _ _ v u Q I rx ry ⟨l, xs, k, w, rfl, rfl, hl, hw, q.here sr rw'⟩
  · cases e
theorem slIx_eq (n d : Nat) (o : Option Int) : slIx n d o = HT.sIx n d o := by cases o <;> rfl
theorem cut_rep {xs : List V} {ds : List D} (r : RepL K fa A H xs ds) (lo hi : Option Int) : RepL K fa A H (cutV xs lo hi) (cutD ds lo hi) := by
  unfold cutV cutD
  rw [slIx_eq, slIx_eq, r.length]
  exact (r.drop _).take _
def rSli (K : PySem.W.Frag) (fa : Nat → Addr) : V → Option Int → Option Int → Hp → VK → Prop := fun x lo hi H Q => ∃ A S a d, SRel K fa A H S ∧ Rep K fa A H x a ∧ slOp S a lo hi = some d ∧ Ans K fa A H S d Q
theorem sl_all : SlR X (rSli X.K fa) := by
  intro pins s σ H x v vl vu lo hi sl Q I rx hs pl pu h
  obtain ⟨A, S, a, d, sr, ra, e, q⟩ := h
  unfold slOp at e
  split at e
  · rename_i ds
    cases e
    obtain ⟨l, xs, rfl, hl, rl⟩ := tup_sq ra
    refine sl_tupA pins s σ H _ v vl vu lo hi sl Q I rx hs pl pu ⟨l, xs, rfl, hl, fun hw => ?_, fun _ p hp => q.tup sr (cut_rep rl lo hi) hp⟩
    refine q.here sr ?_
    have : cutD ds lo hi = ds := by
      unfold cutD
      rw [slIx_eq, slIx_eq, ← rl.length, hw.1, hw.2, rl.length]
      simp
    rw [this]
    exact ra
  · obtain ⟨ds, hd, rfl⟩ := Option.map_eq_some_iff.mp e
    obtain ⟨l, xs, rfl, hl, rl⟩ := listOf_rep sr ra hd
    exact sl_list pins s σ H _ v vl vu lo hi sl Q I rx hs pl pu ⟨l, xs, rfl, SqL.of hl, fun p hp => q.lst sr (cut_rep rl lo hi) hp⟩

/-! ### calls of built-ins -/
def rCB (K : PySem.W.Frag) (fa : Nat → Addr) (f : Bf) : List V → Hp → VK → Prop := fun xs H Q => ∃ A S ds d, SRel K fa A H S ∧ RepL K fa A H xs ds ∧ callB f S ds = some d ∧ Ans K fa A H S d Q
theorem repL1 {xs : List V} {d : D} (r : RepL K fa A H xs [d]) : ∃ v, xs = [v] ∧ Rep K fa A H v d := by
  cases r with
  | cons r t => cases t; exact ⟨_, rfl, r⟩
theorem repL2 {xs : List V} {d d2 : D} (r : RepL K fa A H xs [d, d2]) : ∃ v v2, xs = [v, v2] ∧ Rep K fa A H v d ∧ Rep K fa A H v2 d2 := by
  cases r with
  | cons r t => cases t with
    | cons r2 t => cases t; exact ⟨_, _, rfl, r, r2⟩
theorem allInt_rep : ∀ {ds : List D} {is : List Int} {xs : List V}, RepL K fa A H xs ds → allInt ds = some is → xs = is.map V.int
  | [], is, xs, r, e => by cases r; simp only [allInt] at e; cases e; rfl
  | d :: ds, is, xs, r, e => by
    cases d <;> simp only [allInt] at e <;> first | (cases e; done) | skip
    obtain ⟨js, h, rfl⟩ := Option.map_eq_some_iff.mp e
    cases r with
    | cons r t =>
      cases r
      rw [allInt_rep t h]
      rfl
theorem allBl_rep : ∀ {ds : List D} {bs : List Bool} {xs : List V}, RepL K fa A H xs ds → allBl ds = some bs → xs = bs.map V.bl
  | [], _, _, r, e => by cases e; cases r; rfl
  | .bl b :: ds, bs, xs, r, e => by
    simp only [allBl] at e
    obtain ⟨bs', h, rfl⟩ := Option.map_eq_some_iff.mp e
    cases r with
    | cons r t =>
      cases r
      rw [allBl_rep t h]
      rfl
  | .non :: _, _, _, _, e => by simp only [allBl] at e; cases e
  | .int _ :: _, _, _, _, e => by simp only [allBl] at e; cases e
  | .str _ :: _, _, _, _, e => by simp only [allBl] at e; cases e
  | .tup _ :: _, _, _, _, e => by simp only [allBl] at e; cases e
  | .lst _ :: _, _, _, _, e => by simp only [allBl] at e; cases e
  | .loc _ :: _, _, _, _, e => by simp only [allBl] at e; cases e
  | .fn _ :: _, _, _, _, e => by simp only [allBl] at e; cases e
  | .scr _ :: _, _, _, _, e => by simp only [allBl] at e; cases e
def Bf.val : Bf → Value
  | .len => .builtin "len"
  | .abs => .builtin "abs"
  | .int => .type "int"
  | .list => .type "list"
  | .tuple => .type "tuple"
  | .all => .builtin "all"
  | .sum => .builtin "sum"
  | .min => .builtin "min"
  | .max => .builtin "max"
theorem call_bf (hc : X.calm = true) (f : Bf) : CallR X f.val (rCB X.K fa f) := by
  intro pins s σ H xs us Q I r h
  obtain ⟨A, S, ds, d, sr, rl, e, q⟩ := h
  unfold callB at e
  split at e
  · split at e
    · rename_i x hz
      cases e
      obtain ⟨v, rfl, rv⟩ := repL1 rl
      cases rv
      exact call_len pins s σ H _ us Q I r ⟨_, _, rfl, ⟨by rw [← line_eq]; exact hz, rfl⟩, q.here sr (.int _)⟩
    · cases e
  · obtain ⟨es, he, rfl⟩ := Option.map_eq_some_iff.mp e
    obtain ⟨v, rfl, rv⟩ := repL1 rl
    obtain ⟨l, ys, rfl, hl, ry⟩ := seqOf_rep sr rv he
    refine call_len pins s σ H _ us Q I r ⟨_, es.length, rfl, ?_, q.here sr (.int _)⟩
    rcases hl with hl | hl
    · exact .inl ⟨ys, hl, ry.length.symm⟩
    · exact .inr ⟨ys, hl, ry.length.symm⟩
  · cases e
    obtain ⟨v, rfl, rv⟩ := repL1 rl
    cases rv
    exact call_abs pins s σ H _ us Q I r ⟨_, rfl, q.here sr (.int _)⟩
  · cases e
    obtain ⟨v, rfl, rv⟩ := repL1 rl
    cases rv
    exact call_int1 pins s σ H _ us Q I r (.inl ⟨_, rfl, q.here sr (.int _)⟩)
  · cases e
    obtain ⟨v, rfl, rv⟩ := repL1 rl
    cases rv
    exact call_int1 pins s σ H _ us Q I r (.inr ⟨_, rfl, q.here sr (.int _)⟩)
  · obtain ⟨es, he, rfl⟩ := Option.map_eq_some_iff.mp e
    obtain ⟨v, rfl, rv⟩ := repL1 rl
    obtain ⟨l, ys, rfl, hl, ry⟩ := seqOf_rep sr rv he
    exact call_list_of pins s σ H _ us Q I r ⟨l, ys, rfl, hl, fun p hp => q.lst sr ry hp⟩
  · rename_i d0
    obtain ⟨es, he, rfl⟩ := Option.map_eq_some_iff.mp e
    obtain ⟨v, rfl, rv⟩ := repL1 rl
    obtain ⟨l, ys, rfl, hl, ry⟩ := seqOf_rep sr rv he
    rcases hl with hl | hl
    · exact call_tuple_of pins s σ H _ us Q I r ⟨l, ys, rfl, .inl ⟨hl, fun p hp => q.tup sr ry hp⟩⟩
    · refine call_tuple_of pins s σ H _ us Q I r ⟨l, ys, rfl, .inr ⟨hl, ?_⟩⟩
      cases rv with
      | tup h n m r' => cases he; exact q.here sr (.tup h n m r')
      | ktup k r' => cases he; exact q.here sr (.ktup k r')
      | lst h n m r' =>
        obtain ⟨_, t1, t2, _⟩ := I.tuple hl
        obtain ⟨_, l1, l2, _⟩ := I.list (SqL.of h)
        obtain ⟨o, ho, hc1, _⟩ := t2
        obtain ⟨o2, _, ho2, hc2, _⟩ := l2
        rw [ho] at ho2; cases ho2
        rw [hc1] at hc2; exact absurd (Value.type.inj hc2) (by decide)
      | loc m =>
        obtain ⟨l', xs', e1, h, _⟩ := listOf_rep sr (.loc m) (show listOf S (.loc _) = some es from he)
        cases e1
        obtain ⟨_, t1, t2, _⟩ := I.tuple hl
        obtain ⟨_, l1, l2, _⟩ := I.list (SqL.of h)
        obtain ⟨o, ho, hc1, _⟩ := t2
        obtain ⟨o2, _, ho2, hc2, _⟩ := l2
        rw [ho] at ho2; cases ho2
        rw [hc1] at hc2; exact absurd (Value.type.inj hc2) (by decide)
      | fn => cases he
      | scr h n m =>
        obtain ⟨_, t1, t2, _⟩ := I.tuple hl
        obtain ⟨_, l1, l2, _⟩ := I.list (.inl h)
        obtain ⟨o, ho, hc1, _⟩ := t2
        obtain ⟨o2, _, ho2, hc2, _⟩ := l2
        rw [ho] at ho2; cases ho2
        rw [hc1] at hc2; exact absurd (Value.type.inj hc2) (by decide)
      | kscr k =>
        obtain ⟨_, t1, t2, _⟩ := I.tuple hl
        obtain ⟨_, l1, l2, _⟩ := I.list (.inr k)
        obtain ⟨o, ho, hc1, _⟩ := t2
        obtain ⟨o2, _, ho2, hc2, _⟩ := l2
        rw [ho] at ho2; cases ho2
        rw [hc1] at hc2; exact absurd (Value.type.inj hc2) (by decide)
  · obtain ⟨es, he, e⟩ := Option.bind_eq_some_iff.mp e
    obtain ⟨bs, hb, rfl⟩ := Option.map_eq_some_iff.mp e
    obtain ⟨v, rfl, rv⟩ := repL1 rl
    obtain ⟨l, ys, rfl, hl, ry⟩ := listOf_rep sr rv he
    exact cr_all hc pins s σ H _ us Q I r ⟨l, bs, rfl, by rw [← allBl_rep ry hb]; exact SqL.of hl, q.here sr (.bl _)⟩
  · cases e
    obtain ⟨v, v2, rfl, rv, rv2⟩ := repL2 rl
    cases rv; cases rv2
    exact call_min2 hc pins s σ H _ us Q I r ⟨_, _, rfl, q.here sr (.int _)⟩
  · cases e
    obtain ⟨v, v2, rfl, rv, rv2⟩ := repL2 rl
    cases rv; cases rv2
    exact call_max2 hc pins s σ H _ us Q I r ⟨_, _, rfl, q.here sr (.int _)⟩
  · obtain ⟨es, he, e⟩ := Option.bind_eq_some_iff.mp e
    obtain ⟨is, hb, rfl⟩ := Option.map_eq_some_iff.mp e
    obtain ⟨v, rfl, rv⟩ := repL1 rl
    obtain ⟨l, ys, rfl, hl, ry⟩ := listOf_rep sr rv he
    exact cr_sum hc pins s σ H _ us Q I r ⟨l, is, rfl, by rw [← allInt_rep ry hb]; exact SqL.of hl, q.here sr (.int _)⟩
  · obtain ⟨es, he, e⟩ := Option.bind_eq_some_iff.mp e
    obtain ⟨is, hb, e⟩ := Option.bind_eq_some_iff.mp e
    obtain ⟨m, hm, rfl⟩ := Option.map_eq_some_iff.mp e
    obtain ⟨v, rfl, rv⟩ := repL1 rl
    obtain ⟨l, ys, rfl, hl, ry⟩ := listOf_rep sr rv he
    have hmem : m ∈ is := List.min?_mem hm
    refine cr_min hc pins s σ H _ us Q I r ⟨l, is, rfl, by rw [← allInt_rep ry hb]; exact SqL.of hl, List.length_pos_of_mem hmem, fun m' h1 h2 => ?_⟩
    have e1 : m = m' := Int.le_antisymm ((List.min?_eq_some_iff.mp hm).2 m' h1) (h2 m hmem)
    subst e1
    exact q.here sr (.int _)
  · obtain ⟨es, he, e⟩ := Option.bind_eq_some_iff.mp e
    obtain ⟨is, hb, e⟩ := Option.bind_eq_some_iff.mp e
    obtain ⟨m, hm, rfl⟩ := Option.map_eq_some_iff.mp e
    obtain ⟨v, rfl, rv⟩ := repL1 rl
    obtain ⟨l, ys, rfl, hl, ry⟩ := listOf_rep sr rv he
    have hmem : m ∈ is := List.max?_mem hm
    refine cr_max hc pins s σ H _ us Q I r ⟨l, is, rfl, by rw [← allInt_rep ry hb]; exact SqL.of hl, List.length_pos_of_mem hmem, fun m' h1 h2 => ?_⟩
    have e1 : m = m' := Int.le_antisymm (h2 m hmem) ((List.max?_eq_some_iff.mp hm).2 m' h1)
    subst e1
    exact q.here sr (.int _)
  · cases e
end
end NW
end
section
/- The text is the core syntax; an expression's run is the evaluator's answer. -/
namespace NW
open PySem PySem.Spec L2

/-! ### the text against the core syntax -/
structure Tb where
  fn : Nat → Option FD
  cst : Str → Option D
def okN (x : Str) : Bool := !(x == ("__debug__" : Str)) && (!(x == ("__classdict__" : Str)) && decide (x ≠ ("__name__" : Str)))
def gl (sc : Scope) (x : Str) : Bool := okN x && decide (sc.names.lookup x = some .globalImplicit)
def vis (sc : Scope) (x : Str) : Bool := okN x && (decide (sc.names.lookup x = some .local) || (decide (sc.names.lookup x = some .cell) || decide (sc.names.lookup x = some .free)))
def loc (sc : Scope) (x : Str) : Bool := decide (sc.names.lookup x = some .local) || decide (sc.names.lookup x = some .cell)
/-- no star, no slice, no display of a set -/
def plain : Expr → Bool
  | .Starred .. => false
  | .Slice .. => false
  | .Set .. => false
  | _ => true
def Bf.name : Bf → Str
  | .len => "len"
  | .abs => "abs"
  | .int => "int"
  | .list => "list"
  | .tuple => "tuple"
  | .all => "all"
  | .sum => "sum"
  | .min => "min"
  | .max => "max"
def bltNames : List Str := ["len", "abs", "int", "list", "tuple", "all", "isinstance", "range", "str", "bool", "sum", "min", "max"]
def mNames (N : List Str) (ok : Str → Bool) : List Nat → List Expr → Bool
  | [], [] => true
  | i :: is, .Name x _ :: es => decide (N[i]? = some x) && (ok x && mNames N ok is es)
  | _, _ => false
def mTg (N : List Str) (ok : Str → Bool) : Tg → Expr → Bool
  | .name i, .Name x _ => decide (N[i]? = some x) && ok x
  | .tup is, .Tuple es _ _ => mNames N ok is es
  | _, _ => false
mutual
def mE (T : Tb) (N : List Str) : E → Scope → Expr → Bool
  | .var i, sc, .Name x _ => decide (N[i]? = some x) && vis sc x
  | .non, _, .Constant .none _ _ => true
  | .bl b, _, .Constant (.bool c) _ _ => decide (b = c)
  | .int i, _, .Constant (.int j) _ _ => decide (i = j)
  | .str x, _, .Constant (.str y) _ _ => decide (x = y)
  | .cst x d, sc, .Name y _ => decide (x = y) && (gl sc y && (match T.cst x with
    | some d' => D.same d d'
    | none => false))
  | .bin op a b, sc, .BinOp p o q _ => decide (op = o) && (mE T N a sc p && mE T N b sc q)
  | .neg a, sc, .UnaryOp .USub p _ => mE T N a sc p
  | .cmp op a b, sc, .Compare p [o] [q] _ => decide (op = o) && (plain q && (mE T N a sc p && mE T N b sc q))
  | .chn op op' a b c, sc, .Compare p [o, o'] [q, r] _ => decide (op = o) && (decide (op' = o') && (plain r && (mE T N a sc p && (mE T N b sc q && mE T N c sc r))))
  | .and es, sc, .BoolOp .And qs _ => mEs T N es sc qs
  | .or es, sc, .BoolOp .Or qs _ => mEs T N es sc qs
  | .not a, sc, .UnaryOp .Not p _ => mE T N a sc p
  | .ite c a b, sc, .IfExp r p q _ => mE T N c sc r && (mE T N a sc p && mE T N b sc q)
  | .tup es, sc, .Tuple qs _ _ => mEs T N es sc qs
  | .lst es, sc, .List qs _ => mEs T N es sc qs
  | .nlst es, sc, .List qs _ => mEs T N es sc qs
  | .idx a i, sc, .Subscript p q _ => plain q && (mE T N a sc p && mE T N i sc q)
  | .sl a lo hi, sc, .Subscript p (.Slice l h none _) _ => mE T N a sc p && (mO T N lo sc l && mO T N hi sc h)
  | .call f es, sc, .Call (.Name x _) qs [] _ => gl sc x && ((match T.fn f with
    | some fd => decide (fd.name = x)
    | none => false) && mEs T N es sc qs)
  | .cb f es, sc, .Call (.Name x _) qs [] _ => gl sc x && (decide (f.name = x) && (!qs.isEmpty && mEs T N es sc qs))
  | .isi a t, sc, .Call (.Name x _) [p, .Name y _] [] _ => gl sc x && (gl sc y && (decide (x = ("isinstance" : Str)) && (decide (y = Str.ofString t.nm) && (plain p && mE T N a sc p))))
  | .comp elt own tg it c, sc, .ListComp q [⟨t, i, ifs, 0⟩] scope _ => blkC N sc scope own && (mTg N (loc scope) tg t && (mI T N it sc i && (plain i && (mC T N c (relS scope sc) ifs && mE T N elt (relS scope sc) q))))
  | _, _, _ => false
def mEs (T : Tb) (N : List Str) : Es → Scope → List Expr → Bool
  | .nil, _, [] => true
  | .cons e es, sc, p :: ps => plain p && (mE T N e sc p && mEs T N es sc ps)
  | _, _, _ => false
def mO (T : Tb) (N : List Str) : Oe → Scope → Option Expr → Bool
  | .none, _, none => true
  | .some e, sc, some p => mE T N e sc p
  | _, _, _ => false
def mC (T : Tb) (N : List Str) : Oe → Scope → List Expr → Bool
  | .none, _, [] => true
  | .some e, sc, [p] => mE T N e sc p
  | _, _, _ => false
def mI (T : Tb) (N : List Str) : It → Scope → Expr → Bool
  | .e a, sc, p => mE T N a sc p
  | .rng a, sc, .Call (.Name x _) [p] [] _ => gl sc x && (decide (x = ("range" : Str)) && (plain p && mE T N a sc p))
  | .rng2 a b, sc, .Call (.Name x _) [p, q] [] _ => gl sc x && (decide (x = ("range" : Str)) && (plain p && (plain q && (mE T N a sc p && mE T N b sc q))))
  | _, _, _ => false
end

mutual
theorem D.same_eq : ∀ a b : D, D.same a b = true → a = b
  | .non, b, h => by cases b <;> simp only [D.same] at h <;> first | rfl | cases h
  | .bl _, b, h => by cases b <;> simp only [D.same] at h <;> first | (cases h; done) | rw [eq_of_beq h]
  | .int _, b, h => by cases b <;> simp only [D.same] at h <;> first | (cases h; done) | rw [eq_of_beq h]
  | .str _, b, h => by cases b <;> simp only [D.same] at h <;> first | (cases h; done) | rw [eq_of_beq h]
  | .loc _, b, h => by cases b <;> simp only [D.same] at h <;> first | (cases h; done) | rw [eq_of_beq h]
  | .fn _, b, h => by cases b <;> simp only [D.same] at h <;> first | (cases h; done) | rw [eq_of_beq h]
  | .scr _, b, h => by cases b <;> simp only [D.same] at h <;> first | (cases h; done) | rw [eq_of_beq h]
  | .tup xs, b, h => by cases b <;> simp only [D.same] at h <;> first | (cases h; done) | rw [D.sameL_eq xs _ h]
  | .lst xs, b, h => by cases b <;> simp only [D.same] at h <;> first | (cases h; done) | rw [D.sameL_eq xs _ h]
theorem D.sameL_eq : ∀ xs ys : List D, D.sameL xs ys = true → xs = ys
  | [], [], _ => rfl
  | [], _ :: _, h => by simp only [D.sameL] at h; cases h
  | _ :: _, [], h => by simp only [D.sameL] at h; cases h
  | x :: xs, y :: ys, h => by
    simp only [D.sameL, Bool.and_eq_true] at h
    rw [D.same_eq x y h.1, D.sameL_eq xs ys h.2]
end
mutual
theorem D.same_refl : ∀ a : D, D.same a a = true
  | .non => by simp only [D.same]
  | .bl _ => by simp only [D.same, beq_self_eq_true]
  | .int _ => by simp only [D.same, beq_self_eq_true]
  | .str _ => by simp only [D.same, beq_self_eq_true]
  | .loc _ => by simp only [D.same, beq_self_eq_true]
  | .fn _ => by simp only [D.same, beq_self_eq_true]
  | .scr _ => by simp only [D.same, beq_self_eq_true]
  | .tup xs => by simp only [D.same]; exact D.sameL_refl xs
  | .lst xs => by simp only [D.same]; exact D.sameL_refl xs
theorem D.sameL_refl : ∀ xs : List D, D.sameL xs xs = true
  | [] => by simp only [D.sameL]
  | x :: xs => by simp only [D.sameL, D.same_refl x, D.sameL_refl xs, Bool.and_self]
end

/-! ### what is wanted of an answer -/
section
variable {K : PySem.W.Frag} {fa ca : Nat → Addr} {A A1 A2 A' : Pl} {H H1 H2 H' : Hp} {σ : L2.St} {G : Env}
abbrev W0 : WX := fun _ _ _ _ => False
def tevG {α β : Type} (K : PySem.W.Frag) (fa ca : Nat → Addr) (rep : Pl → Hp → β → α → Prop) (m : Env → Store → R α) (W : WX) (σ : L2.St) (H : Hp) (Q : β → Hp → Prop) : Prop :=
  ∃ A G S, GRel K fa A H σ G ∧ SRel K fa A H S ∧ RPost K fa ca rep (m G S) A H Q (fun c d H' => W c d σ H')
theorem tevG.mono {α β : Type} {rep : Pl → Hp → β → α → Prop} {m : Env → Store → R α} {W : WX} {Q Q' : β → Hp → Prop} (h : tevG K fa ca rep m W σ H Q) (i : ∀ v H1, Q v H1 → Q' v H1) : tevG K fa ca rep m W σ H Q' := by
  obtain ⟨A, G, S, g, s, p⟩ := h
  refine ⟨A, G, S, g, s, ?_⟩
  cases hm : m G S with
  | ok a S1 => rw [hm] at p; exact fun v H' A' e s r => i _ _ (p v H' A' e s r)
  | exc x S1 => rw [hm] at p; exact p
  | bad => rw [hm] at p; exact p
/-- a part first -/
theorem sub {α β γ δ : Type} {rep1 : Pl → Hp → β → α → Prop} {rep2 : Pl → Hp → δ → γ → Prop} {m1 : Env → Store → R α} {f : α → Store → R γ} {W : WX} {Q : δ → Hp → Prop} {S : Store}
    (g : GRel K fa A H σ G) (s : SRel K fa A H S) (p : RPost K fa ca rep2 ((m1 G S).bind f) A H Q (fun c d H' => W c d σ H')) :
    tevG K fa ca rep1 m1 W σ H (fun v H1 => ∃ A1 a S1, Ext A H A1 H1 ∧ SRel K fa A1 H1 S1 ∧ rep1 A1 H1 v a ∧ RPost K fa ca rep2 (f a S1) A1 H1 Q (fun c d H' => W c d σ H')) :=
  ⟨A, G, S, g, s, RPost.bind p⟩
abbrev tev (K : PySem.W.Frag) (fa ca : Nat → Addr) (m : ME) (W : WX) : TE := tevG K fa ca (Rep K fa) m W
def R.toB (r : R D) : R Bool := r.bind fun d S => match d with
  | .bl b => .ok b S
  | _ => .bad
theorem tst_eq (r : R D) (f : Bool → Store → R D) : tst r f = (R.toB r).bind f := by
  cases r with
  | ok d S => cases d <;> rfl
  | exc x S => rfl
  | bad => rfl
abbrev RepB : Pl → Hp → Bool → Bool → Prop := fun _ _ b b' => b = b'
abbrev tevT (K : PySem.W.Frag) (fa ca : Nat → Addr) (m : ME) (W : WX) : TT := tevG K fa ca RepB (fun G S => R.toB (m G S)) W
abbrev tevs (K : PySem.W.Frag) (fa ca : Nat → Addr) (m : Env → Store → R (List D)) (W : WX) : TA := tevG K fa ca (RepL K fa) m W
theorem opt_post {α β : Type} {rep : Pl → Hp → β → α → Prop} {o : Option α} {S : Store} {Q : β → Hp → Prop} {W : Value → Option Addr → Hp → Prop} (h : RPost K fa ca rep (R.opt o S) A H Q W) : ∃ a, o = some a ∧ ∀ v H' A', Ext A H A' H' → SRel K fa A' H' S → rep A' H' v a → Q v H' := by
  cases o with
  | none => exact h.elim
  | some a => exact ⟨a, rfl, h⟩
theorem ans_of {d : D} {S : Store} {Q : VK} (h : ∀ v H' A', Ext A H A' H' → SRel K fa A' H' S → Rep K fa A' H' v d → Q v H') : Ans K fa A H S d Q := fun v H' e s r => h v H' A e s r
end

theorem PE_of {X : Cx} {e : Expr} {t t' : TE} (h : PE X e t) (i : ∀ σ H Q, t' σ H Q → t σ H Q) : PE X e t' := ⟨fun pins s σ H Q I q => h.run pins s σ H Q I (i σ H Q q)⟩
theorem PT_of {X : Cx} {e : Expr} {t t' : TT} (h : PT X e t) (i : ∀ σ H Q, t' σ H Q → t σ H Q) : PT X e t' := ⟨fun pins s σ H Q I q => h.run pins s σ H Q I (i σ H Q q)⟩
theorem PA_of {X : Cx} {e : List Expr} {t t' : TA} (h : PA X e t) (i : ∀ σ H Q, t' σ H Q → t σ H Q) : PA X e t' := ⟨fun pos pins s σ H Q I q => h.run pos pins s σ H Q I (i σ H Q q)⟩
theorem PI_of {X : Cx} {tg e : Expr} {t t' : TI} (h : PI X tg e t) (i : ∀ σ H Q, t' σ H Q → t σ H Q) : PI X tg e t' := ⟨fun pins s σ H Q I q => h.run pins s σ H Q I (i σ H Q q)⟩
theorem PO_of {X : Cx} {e : Option Expr} {t t' : TO} (h : PO X e t) (i : ∀ σ H Q, t' σ H Q → t σ H Q) : PO X e t' := ⟨fun pins s σ H Q I q => h.run pins s σ H Q I (i σ H Q q)⟩

/-! ### the program's top, as far as a call of level k sees it -/
def spF (T : Tb) (K : PySem.W.Frag) (fa ca : Nat → Addr) (k f : Nat) : Sp := fun vs H Q E => (∃ fd, T.fn f = some fd ∧ vs.length = (fd.N.take fd.np).length) ∧
  ∃ A S ds, SRel K fa A H S ∧ RepL K fa A H vs ds ∧ RPost K fa ca (Rep K fa) (callN T.fn k f ds S) A H Q E
structure Top (T : Tb) (fa ca : Nat → Addr) (k : Nat) (P : Program) (w : World) (K : PySem.W.Frag) (mg : Str → Option Value) (base : Heap) : Prop where
  fns : ∀ f fd, T.fn f = some fd → (fd.N.take fd.np).length = fd.np ∧ ∃ fdat : FuncData, mg fd.name = some (.ref (fa f)) ∧ PySem.W.keepIn K (.ref (fa f)) = true ∧ Binds K fdat (fd.N.take fd.np) [] ∧
    FnOk P w K mg base (L2.CX P w) k (fa f) fdat (fd.N.take fd.np) (spF T K fa ca k f)
  cst : ∀ x d, T.cst x = some d → ∃ v u, mg x = some u ∧ RelV v u ∧ ∀ A H, Rep K fa A H v d
  blt : ∀ x, x ∈ bltNames → mg x = none
  tys : ∀ t : Ty, mg (Str.ofString t.nm) = none
structure Good (T : Tb) (fa ca : Nat → Addr) (k : Nat) (X : Cx) : Prop where
  calm : X.calm = true
  nd : X.N.Nodup
  room : Room k X.A
  top : Top T fa ca k X.prog X.w X.K X.mg X.base
theorem Good.blk {T : Tb} {fa ca : Nat → Addr} {k : Nat} {X : Cx} (g : Good T fa ca k X) (s : Shared) (H : Hp) (scope : Scope) (ce : PySem.Env) (fp : List Addr) : Good T fa ca k (X.blk s H scope ce fp) := ⟨g.calm, g.nd, g.room, g.top⟩
theorem takes0 {X : Cx} : Takes X W0 := fun _ _ ⟨_, _, _, _, _, _, _, _, _, _, _, _, _, _, _, _, h⟩ => h.elim
end NW
end
section
/- An expression's run is the evaluator's answer: construct by construct. -/
namespace NW
open PySem PySem.Spec L2
section
variable {T : Tb} {fa ca : Nat → Addr} {k : Nat} {X : Cx} {W : WX} {C : Calls}
/-! ### what the checks say -/
theorem okN_of {x : Str} (h : okN x = true) : (x == ("__debug__" : Str)) = false ∧ (x == ("__classdict__" : Str)) = false ∧ x ≠ ("__name__" : Str) := by
  unfold okN at h
  simp only [Bool.and_eq_true, Bool.not_eq_true', decide_eq_true_eq] at h
  exact h
theorem gl_of {x : Str} (h : gl X.env.scope x = true) : Gl X x ∧ okN x = true := by
  unfold gl at h
  simp only [Bool.and_eq_true, decide_eq_true_eq] at h
  exact ⟨h.2, h.1⟩
theorem vis_of {x : Str} (h : vis X.env.scope x = true) : Vis X.env.scope x ∧ okN x = true := by
  unfold vis at h
  simp only [Bool.and_eq_true, Bool.or_eq_true, decide_eq_true_eq] at h
  exact ⟨h.2, h.1⟩
theorem plain_star {e : Expr} (h : plain e = true) (es : List Expr) (env : PySem.Env) : starEach (e :: es) env = (false, eval e env) :: starEach es env := by
  cases e <;> first | rfl | (simp only [plain] at h; cases h; done)
theorem plain_fold {e : Expr} (h : plain e = true) (env : PySem.Env) (x : Value) : foldedSetIterable e env x = pure x := by
  cases e <;> first | rfl | (simp only [plain] at h; cases h; done)
theorem plain_mark {e : Expr} {op : CmpOp} (h : plain e = true) : behindInMarks op e = false := by
  cases e <;> first | rfl | (simp only [plain] at h; cases h; done)
theorem plain_ix {e : Expr} (h : plain e = true) : PlainIx e := by
  cases e <;> first | (intro _ _; rfl) | (simp only [plain] at h; cases h; done)
theorem mEs_plain {N : List Str} {sc : Scope} : ∀ {es : Es} {ps : List Expr}, mEs T N es sc ps = true → ∀ p ∈ ps, plain p = true
  | .nil, [], _ => fun p hp => by cases hp
  | .cons e es, p :: ps, h => fun q hq => by
    simp only [mEs, Bool.and_eq_true] at h
    rcases List.mem_cons.mp hq with rfl | hq
    · exact h.1
    · exact mEs_plain h.2.2 q hq
  | .nil, _ :: _, h => by simp only [mEs] at h; cases h
  | .cons _ _, [], h => by simp only [mEs] at h; cases h
theorem star_none {env : PySem.Env} {pos : Pos} : ∀ {ps : List Expr}, (∀ p ∈ ps, plain p = true) → (backTo pos (starEach ps env)).any (·.1) = false
  | [], _ => rfl
  | p :: ps, h => by
    rw [plain_star (h p List.mem_cons_self)]
    show (false || (backTo pos (starEach ps env)).any (·.1)) = false
    rw [Bool.false_or]
    exact star_none fun q hq => h q (List.mem_cons_of_mem _ hq)

/-! ### leaves -/
theorem s_val {m : ME} {pe : Expr} (h : PE X pe (tev X.K fa ca m W)) (he : ∀ whole, isTrue pe X.env whole = (do let v ← whole; standAt pe.pos; holding [v] (truthy v))) : PT X pe (tevT X.K fa ca m W) := by
  refine PT_of (pt_val h he) fun σ H Q q => ?_
  obtain ⟨A, G, S, g, s, p⟩ := q
  refine ⟨A, G, S, g, s, ?_⟩
  dsimp only at p
  cases hm : m G S with
  | ok d S1 =>
    rw [hm] at p
    intro v H' A' e s' r
    cases d with
    | bl b => cases r; exact ⟨b, rfl, p b H' A' e s' rfl⟩
    | non => exact p.elim
    | int _ => exact p.elim
    | str _ => exact p.elim
    | tup _ => exact p.elim
    | lst _ => exact p.elim
    | loc _ => exact p.elim
    | fn _ => exact p.elim
    | scr _ => exact p.elim
  | exc x S1 => rw [hm] at p; exact p
  | bad => rw [hm] at p; exact p
theorem s_var {i : Nat} {x : Str} {p : Pos} (hN : X.N[i]? = some x) (hv : vis X.env.scope x = true) : PE X (.Name x p) (tev X.K fa ca (evE C (.var i)) W) := by
  obtain ⟨v1, v2⟩ := vis_of hv
  obtain ⟨n1, n2, n3⟩ := okN_of v2
  refine PE_of (pe_var hN v1 n1 n2) fun σ H Q q => ?_
  obtain ⟨A, G, S, g, s, p⟩ := q
  simp only [evE] at p
  obtain ⟨d, hd, p⟩ := opt_post p
  obtain ⟨o, h1, h2⟩ := Option.bind_eq_some_iff.mp hd
  cases h2
  obtain ⟨v, h3, h4⟩ := g.2 i d h1
  exact ⟨v, h3, p v H A Ext.refl s h4⟩
theorem s_leaf {m : ME} {pe : Expr} {v : V} {d : D} (h : PE X pe (tC v)) (hr : ∀ A H, Rep X.K fa A H v d) (hm : ∀ G S, m G S = .ok d S) : PE X pe (tev X.K fa ca m W) := by
  refine PE_of h fun σ H Q q => ?_
  obtain ⟨A, G, S, g, s, p⟩ := q
  rw [hm] at p
  exact p v H A Ext.refl s (hr A H)

/-! ### operators -/
theorem s_bin {op : Operator} {ma mb : ME} {a b : Expr} {p : Pos} {m : ME} (ha : PE X a (tev X.K fa ca ma W)) (hb : PE X b (tev X.K fa ca mb W))
    (hm : ∀ G S, m G S = (ma G S).bind fun x S1 => (mb G S1).bind fun y S2 => R.opt (binOp op S2 x y) S2) : PE X (.BinOp a op b p) (tev X.K fa ca m W) := by
  refine PE_of (pe_op (op_bin (fa := fa) op) ha hb) fun σ H Q q => ?_
  obtain ⟨A, G, S, g, s, p⟩ := q
  rw [hm] at p
  refine (sub g s p).mono fun x H1 ⟨A1, a, S1, e1, s1, r1, p1⟩ => ?_
  refine (sub (g.mono e1) s1 p1).mono fun y H2 ⟨A2, b, S2, e2, s2, r2, p2⟩ => ?_
  obtain ⟨d, hd, p2⟩ := opt_post p2
  exact ⟨A2, S2, a, b, d, s2, Rep.mono e2 _ _ r1, r2, hd, ans_of p2⟩
theorem s_neg {ma : ME} {a : Expr} {p : Pos} {m : ME} (ha : PE X a (tev X.K fa ca ma W))
    (hm : ∀ G S, m G S = (ma G S).bind fun x S1 => R.opt (negD x) S1) : PE X (.UnaryOp .USub a p) (tev X.K fa ca m W) := by
  refine PE_of (pe_un un_neg ha) fun σ H Q q => ?_
  obtain ⟨A, G, S, g, s, p⟩ := q
  rw [hm] at p
  refine (sub g s p).mono fun x H1 ⟨A1, a, S1, e1, s1, r1, p1⟩ => ?_
  obtain ⟨d, hd, p1⟩ := opt_post p1
  unfold negD at hd
  split at hd
  · cases r1
    cases hd
    exact ⟨_, rfl, p1 _ H1 A1 Ext.refl s1 (.int _)⟩
  · cases hd
theorem room200 {A : Around} {k : Nat} (r : Room k A) : A.units + 200 < cLine := by have := r.un; omega
theorem cmp_post {op : CmpOp} {x y : V} {a b : D} {A : Pl} {H : Hp} {S : Store} {Q : VK} {Wx : Value → Option Addr → Hp → Prop} (s : SRel X.K fa A H S) (ra : Rep X.K fa A H x a) (rb : Rep X.K fa A H y b)
    (p : RPost X.K fa ca (Rep X.K fa) (R.opt ((cmpOp op S a b).map .bl) S) A H Q Wx) : rCmp X.K fa op x y H Q := by
  obtain ⟨d, hd, p⟩ := opt_post p
  obtain ⟨b', hb, rfl⟩ := Option.map_eq_some_iff.mp hd
  exact ⟨A, S, a, b, b', s, ra, rb, hb, p _ H A Ext.refl s (.bl _)⟩
theorem s_cmp {op : CmpOp} {ma mb : ME} {a b : Expr} {p : Pos} {m : ME} (hg : Good T fa ca k X) (hp : plain b = true) (ha : PE X a (tev X.K fa ca ma W)) (hb : PE X b (tev X.K fa ca mb W))
    (hm : ∀ G S, m G S = (ma G S).bind fun x S1 => (mb G S1).bind fun y S2 => R.opt ((cmpOp op S2 x y).map .bl) S2) : PE X (.Compare a [op] [b] p) (tev X.K fa ca m W) ∧ PT X (.Compare a [op] [b] p) (tevT X.K fa ca m W) := by
  refine ⟨PE_of (pe_cmpR (op_cmp (fa := fa) op (room200 hg.room)) ha hb (plain_mark hp)) fun σ H Q q => ?_, PT_of (pt_cmpR (op_cmp (fa := fa) op (room200 hg.room)) ha hb (plain_mark hp)) fun σ H Q q => ?_⟩
  · obtain ⟨A, G, S, g, s, p⟩ := q
    rw [hm] at p
    refine (sub g s p).mono fun x H1 ⟨A1, a, S1, e1, s1, r1, p1⟩ => ?_
    refine (sub (g.mono e1) s1 p1).mono fun y H2 ⟨A2, b, S2, e2, s2, r2, p2⟩ => ?_
    exact cmp_post s2 (Rep.mono e2 _ _ r1) r2 p2
  · obtain ⟨A, G, S, g, s, p⟩ := q
    dsimp only at p
    rw [hm] at p
    have e : ∀ (r : R D) (f : D → Store → R D), R.toB (r.bind f) = r.bind fun d S => R.toB (f d S) := fun r f => by cases r <;> rfl
    rw [e] at p
    refine (sub (rep1 := Rep X.K fa) g s p).mono fun x H1 ⟨A1, a, S1, e1, s1, r1, p1⟩ => ?_
    rw [e] at p1
    refine (sub (rep1 := Rep X.K fa) (g.mono e1) s1 p1).mono fun y H2 ⟨A2, b, S2, e2, s2, r2, p2⟩ => ?_
    cases hc : cmpOp op S2 a b with
    | none => rw [hc] at p2; exact p2.elim
    | some k =>
      rw [hc] at p2
      exact ⟨A2, S2, a, b, k, s2, Rep.mono e2 _ _ r1, r2, hc, k, rfl, p2 k H2 A2 Ext.refl s2 rfl⟩
theorem toB_bind (r : R D) (f : D → Store → R D) : R.toB (r.bind f) = r.bind fun d S => R.toB (f d S) := by cases r <;> rfl
theorem s_chn {op op' : CmpOp} {ma mb mc : ME} {a b c : Expr} {p : Pos} {m : ME} (hg : Good T fa ca k X) (hp : plain c = true) (ha : PE X a (tev X.K fa ca ma W)) (hb : PE X b (tev X.K fa ca mb W)) (hc : PE X c (tev X.K fa ca mc W))
    (hm : ∀ G S, m G S = (ma G S).bind fun x S1 => (mb G S1).bind fun y S2 => (R.opt (cmpOp op S2 x y) S2).bind fun t S2' => cond t ((mc G S2').bind fun z S3 => R.opt ((cmpOp op' S3 y z).map .bl) S3) (.ok (.bl false) S2')) : PE X (.Compare a [op, op'] [b, c] p) (tev X.K fa ca m W) ∧ PT X (.Compare a [op, op'] [b, c] p) (tevT X.K fa ca m W) := by
  refine ⟨PE_of (pe_chain (op_cmp (fa := fa) op (room200 hg.room)) (op_cmp (fa := fa) op' (room200 hg.room)) ha hb hc (plain_mark hp)) fun σ H Q q => ?_, PT_of (pt_chain (op_cmp (fa := fa) op (room200 hg.room)) (op_cmp (fa := fa) op' (room200 hg.room)) ha hb hc (plain_mark hp)) fun σ H Q q => ?_⟩
  · obtain ⟨A, G, S, g, s, p⟩ := q
    rw [hm] at p
    refine (sub g s p).mono fun x H1 ⟨A1, a, S1, e1, s1, r1, p1⟩ => ?_
    refine (sub (g.mono e1) s1 p1).mono fun y H2 ⟨A2, b, S2, e2, s2, r2, p2⟩ => ?_
    cases hc : cmpOp op S2 a b with
    | none => rw [hc] at p2; exact p2.elim
    | some k =>
      rw [hc] at p2
      refine ⟨A2, S2, a, b, k, s2, Rep.mono e2 _ _ r1, r2, hc, k, rfl, ?_⟩
      cases k with
      | false => exact iteF (p2 _ H2 A2 Ext.refl s2 (.bl _))
      | true =>
        refine iteT ((sub ((g.mono e1).mono e2) s2 p2).mono fun z H3 ⟨A3, c, S3, e3, s3, r3, p3⟩ => ?_)
        exact cmp_post s3 (Rep.mono e3 _ _ r2) r3 p3
  · obtain ⟨A, G, S, g, s, p⟩ := q
    dsimp only at p
    rw [hm, toB_bind] at p
    refine (sub (rep1 := Rep X.K fa) g s p).mono fun x H1 ⟨A1, a, S1, e1, s1, r1, p1⟩ => ?_
    rw [toB_bind] at p1
    refine (sub (rep1 := Rep X.K fa) (g.mono e1) s1 p1).mono fun y H2 ⟨A2, b, S2, e2, s2, r2, p2⟩ => ?_
    cases hc : cmpOp op S2 a b with
    | none => rw [hc] at p2; exact p2.elim
    | some k =>
      rw [hc] at p2
      refine ⟨A2, S2, a, b, k, s2, Rep.mono e2 _ _ r1, r2, hc, k, rfl, ?_⟩
      cases k with
      | false => exact iteF ⟨_, rfl, p2 _ H2 A2 Ext.refl s2 rfl⟩
      | true =>
        have p2 : RPost X.K fa ca RepB (R.toB ((mc G S2).bind fun z S3 => R.opt ((cmpOp op' S3 b z).map .bl) S3)) A2 H2 Q (fun c d H' => W c d σ H') := p2
        rw [toB_bind] at p2
        refine iteT ((sub (rep1 := Rep X.K fa) ((g.mono e1).mono e2) s2 p2).mono fun z H3 ⟨A3, c, S3, e3, s3, r3, p3⟩ => ?_)
        cases hc : cmpOp op' S3 b c with
        | none => rw [hc] at p3; exact p3.elim
        | some k =>
          rw [hc] at p3
          exact ⟨A3, S3, b, c, k, s3, Rep.mono e3 _ _ r2, r3, hc, k, rfl, p3 k H3 A3 Ext.refl s3 rfl⟩
/-! ### not, and, or, if -/
theorem toB_tst (r : R D) (f : Bool → Store → R D) : R.toB (tst r f) = (R.toB r).bind fun b S => R.toB (f b S) := by
  cases r with
  | ok d S => cases d <;> rfl
  | exc x S => rfl
  | bad => rfl
theorem tb_of {m : ME} {pe : Expr} (h : PE X pe (tev X.K fa ca m W)) {σ : L2.St} {H : Hp} {Q : Bool → Hp → Prop} (q : tevT X.K fa ca m W σ H Q) : tev X.K fa ca m W σ H (fun x H1 => ∃ c, x = .bl c ∧ Q c H1) := by
  obtain ⟨A, G, S, g, s, p⟩ := q
  refine ⟨A, G, S, g, s, ?_⟩
  dsimp only at p
  cases hm : m G S with
  | ok d S1 =>
    rw [hm] at p
    intro v H' A' e s' r
    cases d with
    | bl b => cases r; exact ⟨b, rfl, p b H' A' e s' rfl⟩
    | non => exact p.elim
    | int _ => exact p.elim
    | str _ => exact p.elim
    | tup _ => exact p.elim
    | lst _ => exact p.elim
    | loc _ => exact p.elim
    | fn _ => exact p.elim
    | scr _ => exact p.elim
  | exc x S1 => rw [hm] at p; exact p
  | bad => rw [hm] at p; exact p
theorem s_not {ma : ME} {a : Expr} {p : Pos} {m : ME} (ha : PE X a (tev X.K fa ca ma W) ∧ PT X a (tevT X.K fa ca ma W)) (hm : ∀ G S, m G S = tst (ma G S) fun b S1 => .ok (.bl (!b)) S1) :
    PE X (.UnaryOp .Not a p) (tev X.K fa ca m W) ∧ PT X (.UnaryOp .Not a p) (tevT X.K fa ca m W) := by
  refine ⟨PE_of (pe_not ha.1) fun σ H Q q => ?_, PT_of (pt_not ha.2) fun σ H Q q => ?_⟩
  · obtain ⟨A, G, S, g, s, p⟩ := q
    rw [hm, tst_eq] at p
    refine tb_of ha.1 ((sub (rep1 := RepB) (m1 := fun G S => R.toB (ma G S)) g s p).mono fun x H1 ⟨A1, b, S1, e1, s1, r1, p1⟩ => ?_)
    subst r1
    exact p1 _ H1 A1 Ext.refl s1 (.bl _)
  · obtain ⟨A, G, S, g, s, p⟩ := q
    dsimp only at p
    rw [hm, toB_tst] at p
    refine (sub (rep1 := RepB) (m1 := fun G S => R.toB (ma G S)) g s p).mono fun x H1 ⟨A1, b, S1, e1, s1, r1, p1⟩ => ?_
    subst r1
    exact p1 _ H1 A1 Ext.refl s1 rfl
theorem s_ite {mc ma mb : ME} {c a b : Expr} {p : Pos} {m : ME} (hc : PT X c (tevT X.K fa ca mc W)) (ha : PE X a (tev X.K fa ca ma W) ∧ PT X a (tevT X.K fa ca ma W)) (hb : PE X b (tev X.K fa ca mb W) ∧ PT X b (tevT X.K fa ca mb W))
    (hm : ∀ G S, m G S = tst (mc G S) fun t S1 => cond t (ma G S1) (mb G S1)) : PE X (.IfExp c a b p) (tev X.K fa ca m W) ∧ PT X (.IfExp c a b p) (tevT X.K fa ca m W) := by
  refine ⟨PE_of (pe_ifExp hc ha.1 hb.1) fun σ H Q q => ?_, ⟨fun pins s σ H Q I q => ?_⟩⟩
  · obtain ⟨A, G, S, g, s, p⟩ := q
    rw [hm, tst_eq] at p
    refine (sub (rep1 := RepB) (m1 := fun G S => R.toB (mc G S)) g s p).mono fun x H1 ⟨A1, b, S1, e1, s1, r1, p1⟩ => ?_
    subst r1
    cases x with
    | true => exact iteT ⟨A1, G, S1, g.mono e1, s1, p1⟩
    | false => exact iteF ⟨A1, G, S1, g.mono e1, s1, p1⟩
  · obtain ⟨A, G, S, g, sr, p⟩ := q
    dsimp only at p
    rw [hm, toB_tst] at p
    refine PyProof.Rows.isTrue_IfExp (thn (hc.run pins s σ H _ I ((sub (rep1 := RepB) (m1 := fun G S => R.toB (mc G S)) g sr p))) fun t s1 ⟨H1, I1, A1, b, S1, e1, s1', r1, p1⟩ => ?_)
    subst r1
    cases t with
    | true => exact iteT (ha.2.run pins s1 σ H1 Q I1 ⟨A1, G, S1, g.mono e1, s1', p1⟩)
    | false => exact iteF (hb.2.run pins s1 σ H1 Q I1 ⟨A1, G, S1, g.mono e1, s1', p1⟩)
end
end NW
end
section
/- An expression's run is the evaluator's answer: argument lists, displays, calls, what is walked, comprehensions. -/
namespace NW
open PySem PySem.Spec L2
section
variable {T : Tb} {fa ca : Nat → Addr} {k : Nat} {X : Cx} {W : WX} {C : Calls}

/-! ### and, or -/
theorem evAnd_one (e : E) (G : Env) (S : Store) : evAnd C (.cons e .nil) G S = evE C e G S := by simp only [evAnd]
theorem evAnd_more (e e2 : E) (es : Es) (G : Env) (S : Store) : evAnd C (.cons e (.cons e2 es)) G S = tst (evE C e G S) fun b S1 => cond b (evAnd C (.cons e2 es) G S1) (.ok (.bl false) S1) := by simp only [evAnd]
theorem evOr_one (e : E) (G : Env) (S : Store) : evOr C (.cons e .nil) G S = evE C e G S := by simp only [evOr]
theorem evOr_more (e e2 : E) (es : Es) (G : Env) (S : Store) : evOr C (.cons e (.cons e2 es)) G S = tst (evE C e G S) fun b S1 => cond b (.ok (.bl true) S1) (evOr C (.cons e2 es) G S1) := by simp only [evOr]
theorem s_and1 {ma : ME} {a : Expr} {p : Pos} {m : ME} (ha : PE X a (tev X.K fa ca ma W) ∧ PT X a (tevT X.K fa ca ma W)) (hm : ∀ G S, m G S = ma G S) : PE X (.BoolOp .And [a] p) (tev X.K fa ca m W) ∧ PW X (.BoolOp .And [a] p) (tevT X.K fa ca m W) := by
  have e : m = ma := funext fun G => funext fun S => hm G S
  subst e
  exact ⟨pe_one ha.1, pw_and1 ha.2⟩
theorem s_or1 {ma : ME} {a : Expr} {p : Pos} {m : ME} (ha : PE X a (tev X.K fa ca ma W) ∧ PT X a (tevT X.K fa ca ma W)) (hm : ∀ G S, m G S = ma G S) : PE X (.BoolOp .Or [a] p) (tev X.K fa ca m W) ∧ PW X (.BoolOp .Or [a] p) (tevT X.K fa ca m W) := by
  have e : m = ma := funext fun G => funext fun S => hm G S
  subst e
  exact ⟨pe_one ha.1, pw_or1 ha.2⟩
theorem PW_of {X : Cx} {e : Expr} {t t' : TT} (h : PW X e t) (i : ∀ σ H Q, t' σ H Q → t σ H Q) : PW X e t' := ⟨fun wh pins s σ H Q I q => h.run wh pins s σ H Q I (i σ H Q q)⟩
theorem s_andc {ma mb : ME} {a b : Expr} {rest : List Expr} {p : Pos} {m : ME} (ha : PE X a (tev X.K fa ca ma W) ∧ PT X a (tevT X.K fa ca ma W)) (hb : PE X (.BoolOp .And (b :: rest) p) (tev X.K fa ca mb W) ∧ PW X (.BoolOp .And (b :: rest) p) (tevT X.K fa ca mb W))
    (hm : ∀ G S, m G S = tst (ma G S) fun t S1 => cond t (mb G S1) (.ok (.bl false) S1)) : PE X (.BoolOp .And (a :: b :: rest) p) (tev X.K fa ca m W) ∧ PW X (.BoolOp .And (a :: b :: rest) p) (tevT X.K fa ca m W) := by
  refine ⟨PE_of (pe_and ha.1 hb.1) fun σ H Q q => ?_, PW_of (pw_and ha.2 hb.2) fun σ H Q q => ?_⟩
  · obtain ⟨A, G, S, g, s, p⟩ := q
    rw [hm, tst_eq] at p
    refine tb_of ha.1 ((sub (rep1 := RepB) (m1 := fun G S => R.toB (ma G S)) g s p).mono fun x H1 ⟨A1, b, S1, e1, s1, r1, p1⟩ => ?_)
    subst r1
    cases x with
    | true => exact iteT ⟨A1, G, S1, g.mono e1, s1, p1⟩
    | false => exact iteF (p1 _ H1 A1 Ext.refl s1 (.bl _))
  · obtain ⟨A, G, S, g, s, p⟩ := q
    dsimp only at p
    rw [hm, toB_tst] at p
    refine (sub (rep1 := RepB) (m1 := fun G S => R.toB (ma G S)) g s p).mono fun x H1 ⟨A1, b, S1, e1, s1, r1, p1⟩ => ?_
    subst r1
    cases x with
    | true => exact iteT ⟨A1, G, S1, g.mono e1, s1, p1⟩
    | false => exact iteF (p1 _ H1 A1 Ext.refl s1 rfl)
theorem s_orc {ma mb : ME} {a b : Expr} {rest : List Expr} {p : Pos} {m : ME} (ha : PE X a (tev X.K fa ca ma W) ∧ PT X a (tevT X.K fa ca ma W)) (hb : PE X (.BoolOp .Or (b :: rest) p) (tev X.K fa ca mb W) ∧ PW X (.BoolOp .Or (b :: rest) p) (tevT X.K fa ca mb W))
    (hm : ∀ G S, m G S = tst (ma G S) fun t S1 => cond t (.ok (.bl true) S1) (mb G S1)) : PE X (.BoolOp .Or (a :: b :: rest) p) (tev X.K fa ca m W) ∧ PW X (.BoolOp .Or (a :: b :: rest) p) (tevT X.K fa ca m W) := by
  refine ⟨PE_of (pe_or ha.1 hb.1) fun σ H Q q => ?_, PW_of (pw_or ha.2 hb.2) fun σ H Q q => ?_⟩
  · obtain ⟨A, G, S, g, s, p⟩ := q
    rw [hm, tst_eq] at p
    refine tb_of ha.1 ((sub (rep1 := RepB) (m1 := fun G S => R.toB (ma G S)) g s p).mono fun x H1 ⟨A1, b, S1, e1, s1, r1, p1⟩ => ?_)
    subst r1
    cases x with
    | false => exact iteF ⟨A1, G, S1, g.mono e1, s1, p1⟩
    | true => exact iteT (p1 _ H1 A1 Ext.refl s1 (.bl _))
  · obtain ⟨A, G, S, g, s, p⟩ := q
    dsimp only at p
    rw [hm, toB_tst] at p
    refine (sub (rep1 := RepB) (m1 := fun G S => R.toB (ma G S)) g s p).mono fun x H1 ⟨A1, b, S1, e1, s1, r1, p1⟩ => ?_
    subst r1
    cases x with
    | false => exact iteF ⟨A1, G, S1, g.mono e1, s1, p1⟩
    | true => exact iteT (p1 _ H1 A1 Ext.refl s1 rfl)

/-! ### argument lists, displays -/
theorem evEs_cons (e : E) (es : Es) (G : Env) (S : Store) : evEs C (.cons e es) G S = (evE C e G S).bind fun d S1 => (evEs C es G S1).bind fun ds S2 => .ok (d :: ds) S2 := by
  simp only [evEs]
theorem s_nil : PA X [] (tevs X.K fa ca (evEs C .nil) W) := by
  refine PA_of pa_nil fun σ H Q q => ?_
  obtain ⟨A, G, S, g, s, p⟩ := q
  simp only [evEs] at p
  exact p [] H A Ext.refl s .nil
theorem s_cons {e : E} {es : Es} {pe : Expr} {ps : List Expr} (hp : plain pe = true) (ha : PE X pe (tev X.K fa ca (evE C e) W)) (hb : PA X ps (tevs X.K fa ca (evEs C es) W)) : PA X (pe :: ps) (tevs X.K fa ca (evEs C (.cons e es)) W) := by
  refine PA_of (pa_cons ha hb (plain_star hp _ _)) fun σ H Q q => ?_
  obtain ⟨A, G, S, g, s, p⟩ := q
  rw [evEs_cons] at p
  refine (sub (rep1 := Rep X.K fa) g s p).mono fun x H1 ⟨A1, a, S1, e1, s1, r1, p1⟩ => ?_
  refine (sub (rep1 := RepL X.K fa) (g.mono e1) s1 p1).mono fun y H2 ⟨A2, b, S2, e2, s2, r2, p2⟩ => ?_
  exact p2 _ H2 A2 Ext.refl s2 (.cons (Rep.mono e2 _ _ r1) r2)
theorem s_tup {es : Es} {ps : List Expr} {j : Nat} {p : Pos} (ha : PA X ps (tevs X.K fa ca (evEs C es) W)) : PE X (.Tuple ps j p) (tev X.K fa ca (evE C (.tup es)) W) := by
  refine PE_of (pe_tup ha) fun σ H Q q => ?_
  obtain ⟨A, G, S, g, s, p⟩ := q
  simp only [evE] at p
  refine (sub (rep1 := RepL X.K fa) g s p).mono fun xs H1 ⟨A1, ds, S1, e1, s1, r1, p1⟩ => ?_
  split at p1
  · rename_i hz
    exact ⟨by rw [r1.length, ← line_eq]; exact hz, fun q hq => (ans_of p1).tup s1 r1 hq⟩
  · exact p1.elim
theorem s_lst {es : Es} {ps : List Expr} {p : Pos} (ha : PA X ps (tevs X.K fa ca (evEs C es) W)) : PE X (.List ps p) (tev X.K fa ca (evE C (.lst es)) W) := by
  refine PE_of (pe_lst ha) fun σ H Q q => ?_
  obtain ⟨A, G, S, g, s, p⟩ := q
  simp only [evE] at p
  refine (sub (rep1 := RepL X.K fa) g s p).mono fun xs H1 ⟨A1, ds, S1, e1, s1, r1, p1⟩ => ?_
  split at p1
  · rename_i hz
    exact ⟨by rw [r1.length, ← line_eq]; exact hz, fun q hq => (ans_of p1).lst s1 r1 hq⟩
  · exact p1.elim
theorem s_nlst {es : Es} {ps : List Expr} {p : Pos} (ha : PA X ps (tevs X.K fa ca (evEs C es) W)) : PE X (.List ps p) (tev X.K fa ca (evE C (.nlst es)) W) := by
  refine PE_of (pe_lst ha) fun σ H Q q => ?_
  obtain ⟨A, G, S, g, s, p⟩ := q
  simp only [evE] at p
  refine (sub (rep1 := RepL X.K fa) g s p).mono fun xs H1 ⟨A1, ds, S1, e1, s1, r1, p1⟩ => ?_
  split at p1
  · rename_i hz
    refine ⟨by rw [r1.length, ← line_eq]; exact hz, fun q hq => p1 _ _ _ (Ext.place s1 hq) (s1.place hq r1) (.loc ?_)⟩
    show (A1.pl ++ [q])[_]? = _
    rw [← s1.len]; simp
  · exact p1.elim

/-! ### items, slices -/
theorem s_idx {a i : E} {pa pi : Expr} {p : Pos} (hp : plain pi = true) (ha : PE X pa (tev X.K fa ca (evE C a) W)) (hi : PE X pi (tev X.K fa ca (evE C i) W)) : PE X (.Subscript pa pi p) (tev X.K fa ca (evE C (.idx a i)) W) := by
  refine PE_of (pe_ix (ix_all (fa := fa)) ha hi (plain_ix hp)) fun σ H Q q => ?_
  obtain ⟨A, G, S, g, s, p⟩ := q
  simp only [evE] at p
  refine (sub g s p).mono fun x H1 ⟨A1, a, S1, e1, s1, r1, p1⟩ => ?_
  refine (sub (g.mono e1) s1 p1).mono fun y H2 ⟨A2, b, S2, e2, s2, r2, p2⟩ => ?_
  obtain ⟨d, hd, p2⟩ := opt_post p2
  exact ⟨A2, S2, a, b, d, s2, Rep.mono e2 _ _ r1, r2, hd, ans_of p2⟩
/-- a slice's part -/
abbrev RepP : Pl → Hp → Option Int → Option Int → Prop := fun _ _ o d => d = o
theorem s_none : PO X none (tevG X.K fa ca RepP (evO C .none) W) := by
  refine PO_of po_none fun σ H Q q => ?_
  obtain ⟨A, G, S, g, s, p⟩ := q
  simp only [evO] at p
  exact p none H A Ext.refl s rfl
theorem s_some {e : E} {pe : Expr} (ha : PE X pe (tev X.K fa ca (evE C e) W)) : PO X (some pe) (tevG X.K fa ca RepP (evO C (.some e)) W) := by
  refine PO_of (po_some ha) fun σ H Q q => ?_
  obtain ⟨A, G, S, g, s, p⟩ := q
  simp only [evO] at p
  refine (sub (rep1 := Rep X.K fa) g s p).mono fun x H1 ⟨A1, a, S1, e1, s1, r1, p1⟩ => ?_
  cases a with
  | int i => cases r1; exact ⟨i, rfl, p1 (some i) H1 A1 Ext.refl s1 rfl⟩
  | non => exact p1.elim
  | bl _ => exact p1.elim
  | str _ => exact p1.elim
  | tup _ => exact p1.elim
  | lst _ => exact p1.elim
  | loc _ => exact p1.elim
  | fn _ => exact p1.elim
  | scr _ => exact p1.elim
theorem s_sl {a : E} {lo hi : Oe} {pa : Expr} {pl ph : Option Expr} {p p2 : Pos} (ha : PE X pa (tev X.K fa ca (evE C a) W)) (hl : PO X pl (tevG X.K fa ca RepP (evO C lo) W)) (hh : PO X ph (tevG X.K fa ca RepP (evO C hi) W)) :
    PE X (.Subscript pa (.Slice pl ph none p2) p) (tev X.K fa ca (evE C (.sl a lo hi)) W) := by
  refine PE_of (pe_slice (sl_all (fa := fa)) ha hl hh) fun σ H Q q => ?_
  obtain ⟨A, G, S, g, s, p⟩ := q
  simp only [evE] at p
  refine (sub g s p).mono fun x H1 ⟨A1, a, S1, e1, s1, r1, p1⟩ => ?_
  refine (sub (rep1 := RepP) (g.mono e1) s1 p1).mono fun l H2 ⟨A2, b, S2, e2, s2, r2, p2⟩ => ?_
  refine (sub (rep1 := RepP) ((g.mono e1).mono e2) s2 p2).mono fun u H3 ⟨A3, c, S3, e3, s3, r3, p3⟩ => ?_
  cases r2
  cases r3
  obtain ⟨d, hd, p4⟩ := opt_post p3
  exact ⟨A3, S3, a, d, s3, Rep.mono e3 _ _ (Rep.mono e2 _ _ r1), hd, ans_of p4⟩

/-! ### calls -/
theorem s_cb {f : Bf} {es : Es} {x : Str} {ps : List Expr} {p p2 : Pos} (hg : Good T fa ca k X) (hx : gl X.env.scope x = true) (hn : f.name = x) (hne : ps.isEmpty = false) (hpl : ∀ q ∈ ps, plain q = true) (ha : PA X ps (tevs X.K fa ca (evEs C es) W)) :
    PE X (.Call (.Name x p2) ps [] p) (tev X.K fa ca (evE C (.cb f es)) W) := by
  obtain ⟨g1, g2⟩ := gl_of hx
  obtain ⟨n1, n2, n3⟩ := okN_of g2
  cases ps with
  | nil => cases hne
  | cons pe ps =>
    have hm : X.mg x = none := hg.top.blt x (by rw [← hn]; cases f <;> decide +kernel)
    have go : PE X (.Call (.Name x p2) (pe :: ps) [] p) (tCB (rCB X.K fa f) (tevs X.K fa ca (evEs C es) W)) := by
      have c := call_bf (fa := fa) hg.calm f
      subst hn
      cases f with
      | len => exact pe_callB c g1 hm (by decide +kernel) ha n3 n1 (plain_star (hpl _ List.mem_cons_self) _ _) (star_none fun q hq => hpl q (List.mem_cons_of_mem _ hq))
      | abs => exact pe_callB c g1 hm (by decide +kernel) ha n3 n1 (plain_star (hpl _ List.mem_cons_self) _ _) (star_none fun q hq => hpl q (List.mem_cons_of_mem _ hq))
      | int => exact pe_callTy c g1 hm (by decide +kernel) ha n3 n1 (plain_star (hpl _ List.mem_cons_self) _ _) (star_none fun q hq => hpl q (List.mem_cons_of_mem _ hq))
      | list => exact pe_callTy c g1 hm (by decide +kernel) ha n3 n1 (plain_star (hpl _ List.mem_cons_self) _ _) (star_none fun q hq => hpl q (List.mem_cons_of_mem _ hq))
      | tuple => exact pe_callTy c g1 hm (by decide +kernel) ha n3 n1 (plain_star (hpl _ List.mem_cons_self) _ _) (star_none fun q hq => hpl q (List.mem_cons_of_mem _ hq))
      | all => exact pe_callB c g1 hm (by decide +kernel) ha n3 n1 (plain_star (hpl _ List.mem_cons_self) _ _) (star_none fun q hq => hpl q (List.mem_cons_of_mem _ hq))
      | sum => exact pe_callB c g1 hm (by decide +kernel) ha n3 n1 (plain_star (hpl _ List.mem_cons_self) _ _) (star_none fun q hq => hpl q (List.mem_cons_of_mem _ hq))
      | min => exact pe_callB c g1 hm (by decide +kernel) ha n3 n1 (plain_star (hpl _ List.mem_cons_self) _ _) (star_none fun q hq => hpl q (List.mem_cons_of_mem _ hq))
      | max => exact pe_callB c g1 hm (by decide +kernel) ha n3 n1 (plain_star (hpl _ List.mem_cons_self) _ _) (star_none fun q hq => hpl q (List.mem_cons_of_mem _ hq))
    refine PE_of go fun σ H Q q => ?_
    obtain ⟨A, G, S, g, s, p⟩ := q
    simp only [evE] at p
    refine (sub (rep1 := RepL X.K fa) g s p).mono fun x H1 ⟨A1, ds, S1, e1, s1, r1, p1⟩ => ?_
    obtain ⟨d, hd, p1⟩ := opt_post p1
    exact ⟨A1, S1, ds, d, s1, r1, hd, ans_of p1⟩
theorem pe_callS0 {CX : CXT} {k : Nat} {f : Addr} {fd : FuncData} {ps : List Str} {sp : Sp} {E : L2.St → XK} {x : Str} {p pos : Pos} (F : FnOk X.prog X.w X.K X.mg X.base CX k f fd ps sp) (hr : Room k X.A) (hg : Gl X x) (hm : X.mg x = some (.ref f)) (hk : PySem.W.keepIn X.K (.ref f) = true) (hb : Binds X.K fd ps []) (hx : ∀ σ, PassesAt CX X σ (E σ))
    (hdb : (x == ("__debug__" : Str)) = false) : PE X (.Call (.Name x p) [] [] pos) (tCallS sp E tNil) := by
  refine ⟨fun pins s σ H Q I h => ?_⟩
  refine wpAny_Call_Name_kw (ld_glob I hg hm ?_ hdb)
  exact PySem.W.callWith_K0 I.kIn hk (run_fnS (us := []) F hr hb (hx σ) I .nil h)
theorem s_call {f : Nat} {fd : FD} {es : Es} {x : Str} {ps : List Expr} {p p2 : Pos} (hg : Good T fa ca k X) (tk : Takes X W) (hf : T.fn f = some fd) (hx : gl X.env.scope x = true) (hn : fd.name = x) (hpl : ∀ q ∈ ps, plain q = true) (hes : mEs T X.N es X.env.scope ps = true)
    (ha : PA X ps (tevs X.K fa ca (evEs (callN T.fn k) es) W)) : PE X (.Call (.Name x p2) ps [] p) (tev X.K fa ca (evE (callN T.fn k) (.call f es)) W) := by
  obtain ⟨g1, g2⟩ := gl_of hx
  obtain ⟨n1, n2, n3⟩ := okN_of g2
  obtain ⟨hl, fdat, m1, m2, m3, F⟩ := hg.top.fns f fd hf
  subst hn
  have fin : ∀ {σ : L2.St} {H : Hp} {Q : VK}, tev X.K fa ca (evE (callN T.fn k) (.call f es)) W σ H Q → tevs X.K fa ca (evEs (callN T.fn k) es) W σ H fun vs H1 => spF T X.K fa ca k f vs H1 Q (WE W σ) := fun {σ H Q} q => by
    obtain ⟨A, G, S, g, s, p⟩ := q
    simp only [evE] at p
    refine (sub (rep1 := RepL X.K fa) g s p).mono fun vs H1 ⟨A1, ds, S1, e1, s1, r1, p1⟩ => ?_
    refine ⟨⟨fd, hf, ?_⟩, A1, S1, ds, s1, r1, p1⟩
    rw [hl, r1.length]
    cases k with
    | zero => exact p1.elim
    | succ k =>
      simp only [callN, hf] at p1
      split at p1
      · assumption
      · exact p1.elim
  cases ps with
  | nil =>
    refine PE_of (pe_callS0 F hg.room g1 m1 m2 m3 (passAt tk) n1) fun σ H Q q => ?_
    have q := fin q
    cases es with
    | cons _ _ => simp only [mEs] at hes; cases hes
    | nil =>
      obtain ⟨A, G, S, g, s, p⟩ := q
      simp only [evEs] at p
      exact p [] H A Ext.refl s .nil
  | cons pe ps =>
    exact PE_of (pe_callS F hg.room g1 m1 m2 m3 (passAt tk) ha n1 (plain_star (hpl _ List.mem_cons_self) _ _) (star_none fun q hq => hpl q (List.mem_cons_of_mem _ hq))) fun σ H Q q => fin q
end
end NW
end
section
/- isinstance; what is walked; targets; comprehensions; the whole of expressions. -/
namespace NW
open PySem PySem.Spec L2
section
variable {T : Tb} {fa ca : Nat → Addr} {k : Nat} {X : Cx} {W : WX} {C : Calls}
theorem s_isi {a : E} {t : Ty} {x y : Str} {pa : Expr} {p p2 p3 : Pos} (hg : Good T fa ca k X) (hx : gl X.env.scope x = true) (hy : gl X.env.scope y = true) (ex : x = ("isinstance" : Str)) (ey : y = Str.ofString t.nm) (hp : plain pa = true) (ha : PE X pa (tev X.K fa ca (evE C a) W)) :
    PE X (.Call (.Name x p2) [pa, .Name y p3] [] p) (tev X.K fa ca (evE C (.isi a t)) W) := by
  obtain ⟨g1, g2⟩ := gl_of hx
  obtain ⟨n1, n2, n3⟩ := okN_of g2
  obtain ⟨g1', g2'⟩ := gl_of hy
  obtain ⟨n1', n2', n3'⟩ := okN_of g2'
  subst ex ey
  have hm : X.mg ("isinstance" : Str) = none := hg.top.blt _ (by decide +kernel)
  have ht : PE X (.Name (Str.ofString t.nm) p3) (tC (.ty t.nm)) := pe_bltn (u := .type t.nm) g1' (hg.top.tys t) (by cases t <;> decide +kernel) rfl n3' n1'
  refine PE_of (pe_callB call_isi g1 hm (by decide +kernel) (pa_cons ha (pa_cons ht pa_nil) (plain_star hp _ _)) n3 n1 (plain_star hp _ _) (star_none fun q hq => by rw [List.mem_singleton.mp hq] <;> rfl)) fun σ H Q q => ?_
  obtain ⟨A, G, S, g, s, p⟩ := q
  simp only [evE] at p
  refine (sub g s p).mono fun x H1 ⟨A1, a, S1, e1, s1, r1, p1⟩ => ?_
  obtain ⟨d, hd, p1⟩ := opt_post p1
  obtain ⟨b, hb, rfl⟩ := Option.map_eq_some_iff.mp hd
  obtain ⟨n, ty, kt⟩ := ty_rep s1 r1 hb
  exact ⟨x, .ty t.nm, .type n, .type t.nm, b, rfl, .ty _, ty, kit_ty kt, p1 _ H1 A1 Ext.refl s1 (.bl b)⟩

/-! ### what is walked -/
/-- values may be carried over -/
structure Car (A : Pl) (H : Hp) (A1 : Pl) (H1 : Hp) : Prop where
  pl : ∀ (n : Nat) (a : Addr), A.pl[n]? = some a → A1.pl[n]? = some a
  keep : ∀ a o, a ∉ A.pl → a ∉ A.fb → H a = some o → H1 a = some o ∧ a ∉ A1.pl ∧ a ∉ A1.fb
variable {K : PySem.W.Frag} {A A1 A2 A' : Pl} {H H1 H2 H' : Hp} {σ : L2.St} {G : Env}
theorem Car.rep (c : Car A H A1 H1) {d : D} {v : V} (r : Rep K fa A H v d) : Rep K fa A1 H1 v d := Rep.carry c.pl c.keep d v r
theorem Car.repL (c : Car A H A1 H1) {d : List D} {v : List V} (r : RepL K fa A H v d) : RepL K fa A1 H1 v d := RepL.carry c.pl c.keep d v r
theorem Car.grel (c : Car A H A1 H1) (g : GRel K fa A H σ G) : GRel K fa A1 H1 σ G := ⟨g.1, fun i d h => let ⟨v, h1, h2⟩ := g.2 i d h; ⟨v, h1, c.rep h2⟩⟩
theorem Ext.car (e : Ext A H A1 H1) : Car A H A1 H1 := ⟨fun _ _ m => e.at m, e.rep⟩
def Serves (K : PySem.W.Frag) (fa : Nat → Addr) (A : Pl) (H : Hp) (J : L2.It) (src : Src) : Prop := ∀ A1 H1 S1, Car A H A1 H1 → SRel K fa A1 H1 S1 → src.stays S1 = true →
  (∀ (i : Nat) (d : D), src.items[i]? = some d → J.go i H1 ∧ ∀ x H', J.yld i H1 x H' → H' = H1 ∧ Rep K fa A1 H1 x d) ∧ ∀ i, src.items.length ≤ i → J.stop i H1
def iSeq (K : PySem.W.Frag) (tl : TE) : TI := fun σ H R => tl σ H fun x H1 => ∃ a, x = .ref a ∧ (((∃ xs, SqL K H1 a xs) ∧ R (Itl K a) H1) ∨ ((∃ xs, SqT K H1 a xs) ∧ R (Itt K a) H1))
theorem pi_seq {tg l : Expr} {tl : TE} (hl : PE X l tl) : PI X tg l (iSeq X.K tl) := by
  refine ⟨fun pins s σ H R I h => ?_⟩
  refine thn (hl.run pins s σ H _ I h) fun v s1 ⟨x, H1, I1, r1, q1⟩ => ?_
  obtain ⟨a, e, q⟩ := q1
  subst e
  cases r1
  rcases q with ⟨⟨xs, hq⟩, q⟩ | ⟨⟨xs, hq⟩, q⟩
  · obtain ⟨its, rv, p, hz⟩ := I1.list hq
    refine wpAny_pyIter_list p.isList ?_
    refine ⟨s1.heap.objs.size, [s1.heap.objs.size], _, _, H1, rfl, I1.kept (t' := s1.toks) fun b o e => Heap.get?_push_of_some _ e, turn_list a _, ⟨_, Heap.get?_push_size _ rfl, rfl, rfl⟩, fun b hb => ?_, q⟩
    have e : b = s1.heap.objs.size := by simpa using hb
    subst e
    exact I1.fpOk (Nat.le_refl _) (I1.hok.fresh (Nat.le_refl _))
  · obtain ⟨its, rv, p, hz⟩ := I1.tuple hq
    refine wpAny_pyIter_tuple (show s1.heap.IsTuple a its.toArray from p) ?_
    refine ⟨s1.heap.objs.size, [s1.heap.objs.size], _, _, H1, rfl, I1.kept (t' := s1.toks) fun b o e => Heap.get?_push_of_some _ e, turn_tuple a _, ⟨_, Heap.get?_push_size _ rfl, rfl, rfl⟩, fun b hb => ?_, q⟩
    have e : b = s1.heap.objs.size := by simpa using hb
    subst e
    exact I1.fpOk (Nat.le_refl _) (I1.hok.fresh (Nat.le_refl _))
theorem serve_list {a : Addr} {xs : List V} {ds : List D} (f : ∀ A1 H1 S1, Car A H A1 H1 → SRel K fa A1 H1 S1 → (Src.mk ds n).stays S1 = true → ∃ xs, SqL K H1 a xs ∧ RepL K fa A1 H1 xs ds) : Serves K fa A H (Itl K a) ⟨ds, n⟩ := by
  intro A1 H1 S1 c s st
  obtain ⟨xs, q, r⟩ := f A1 H1 S1 c s st
  refine ⟨fun i d hd => ?_, fun i hi => ⟨xs, q, by rw [r.length]; exact hi⟩⟩
  obtain ⟨v, hv, rv⟩ := r.get hd
  refine ⟨⟨xs, v, q, hv⟩, fun x H' y => ?_⟩
  obtain ⟨e, y⟩ := y
  have := y xs q
  rw [hv] at this
  cases this
  exact ⟨e, rv⟩
theorem serve_tup {a : Addr} {ds : List D} (f : ∀ A1 H1, Car A H A1 H1 → ∃ xs, SqT K H1 a xs ∧ RepL K fa A1 H1 xs ds) : Serves K fa A H (Itt K a) ⟨ds, none⟩ := by
  intro A1 H1 S1 c s st
  obtain ⟨xs, q, r⟩ := f A1 H1 c
  refine ⟨fun i d hd => ?_, fun i hi => ⟨xs, q, by rw [r.length]; exact hi⟩⟩
  obtain ⟨v, hv, rv⟩ := r.get hd
  refine ⟨⟨xs, v, q, hv⟩, fun x H' y => ?_⟩
  obtain ⟨e, y⟩ := y
  have := y xs q
  rw [hv] at this
  cases this
  exact ⟨e, rv⟩
theorem src_rep {S : Store} (s : SRel K fa A H S) {v : V} {d : D} {src : Src} (r : Rep K fa A H v d) (e : srcOf S d = some src) :
    ∃ a, v = .ref a ∧ (((∃ xs, SqL K H a xs) ∧ Serves K fa A H (Itl K a) src) ∨ ((∃ xs, SqT K H a xs) ∧ Serves K fa A H (Itt K a) src)) := by
  cases r with
  | tup h n m r =>
    cases e
    refine ⟨_, rfl, .inr ⟨⟨_, SqT.of h⟩, serve_tup fun A1 H1 c => ⟨_, SqT.of (c.keep _ _ n m h).1, c.repL r⟩⟩⟩
  | ktup k r =>
    cases e
    refine ⟨_, rfl, .inr ⟨⟨_, .inr k⟩, serve_tup fun A1 H1 c => ⟨_, .inr k, c.repL r⟩⟩⟩
  | lst h n m r =>
    cases e
    exact ⟨_, rfl, .inl ⟨⟨_, SqL.of h⟩, serve_list (xs := []) fun A1 H1 S1 c _ _ => ⟨_, SqL.of (c.keep _ _ n m h).1, c.repL r⟩⟩⟩
  | loc m =>
    rename_i a n
    simp only [srcOf] at e
    split at e
    · rename_i ds hn
      cases e
      obtain ⟨a', xs, e1, h, rr⟩ := listOf_rep (ds := ds) s (.loc m) (by simp only [listOf, hn])
      cases e1
      refine ⟨_, rfl, .inl ⟨⟨_, SqL.of h⟩, serve_list (xs := []) fun A1 H1 S1 c s1 st => ?_⟩⟩
      simp only [Src.stays] at st
      split at st
      · rename_i ds' hn'
        have := D.sameL_eq _ _ st
        subst this
        obtain ⟨a2, xs2, e2, h2, r2⟩ := listOf_rep (ds := ds') s1 (.loc (c.pl _ _ m)) (by simp only [listOf, hn'])
        cases e2
        exact ⟨xs2, SqL.of h2, r2⟩
      · cases st
    · cases e
  | non => cases e
  | bl => cases e
  | int => cases e
  | str => cases e
  | fn => cases e
  | scr _ _ _ => cases e
  | kscr _ => cases e
theorem rng_serves {lo : Int} {n : Nat} : Serves K fa A H (Itr lo n) ⟨rngD lo n, none⟩ := by
  intro A1 H1 S1 c s st
  refine ⟨fun i d hd => ?_, fun i hi => by have h : (rngD lo n).length ≤ i := hi; simp [rngD] at h; exact h⟩
  have hd' : (rngD lo n)[i]? = some d := hd
  unfold rngD at hd'
  rw [List.getElem?_map] at hd'
  have hi : i < n := by
    rcases Nat.lt_or_ge i n with h | h
    · exact h
    · rw [List.getElem?_eq_none (by simpa using h)] at hd'; cases hd'
  rw [List.getElem?_range hi] at hd'
  cases hd'
  refine ⟨hi, fun x H' y => ?_⟩
  obtain ⟨e, rfl⟩ := y
  exact ⟨e, .int _⟩
abbrev tevI (K : PySem.W.Frag) (fa ca : Nat → Addr) (m : Env → Store → R Src) (W : WX) : TI := tevG K fa ca (Serves K fa) m W
theorem s_iter {a : E} {tg pa : Expr} (ha : PE X pa (tev X.K fa ca (evE C a) W)) : PI X tg pa (tevI X.K fa ca (evI C (.e a)) W) := by
  refine PI_of (pi_seq ha) fun σ H R q => ?_
  obtain ⟨A, G, S, g, s, p⟩ := q
  simp only [evI] at p
  refine (sub (rep1 := Rep X.K fa) g s p).mono fun x H1 ⟨A1, a, S1, e1, s1, r1, p1⟩ => ?_
  obtain ⟨src, hs, p1⟩ := opt_post p1
  obtain ⟨b, rfl, h⟩ := src_rep s1 r1 hs
  refine ⟨b, rfl, ?_⟩
  rcases h with ⟨h, v⟩ | ⟨h, v⟩
  · exact .inl ⟨h, p1 _ H1 A1 Ext.refl s1 v⟩
  · exact .inr ⟨h, p1 _ H1 A1 Ext.refl s1 v⟩
theorem rngSrc_some {a b : D} {src : Src} (h : rngSrc a b = some src) : ∃ i j, a = .int i ∧ b = .int j ∧ (-(2 ^ 62) ≤ i ∧ i < 2 ^ 62 ∧ -(2 ^ 62) ≤ j ∧ j < 2 ^ 62) ∧ src = ⟨rngD i (j - i).toNat, none⟩ := by
  unfold rngSrc at h
  split at h
  · split at h
    · rename_i hr
      cases h
      exact ⟨_, _, rfl, rfl, of_decide_eq_true hr, rfl⟩
    · cases h
  · cases h
theorem s_rng1 {a : E} {x : Str} {tg pa : Expr} {p p2 : Pos} (hg : Good T fa ca k X) (hx : gl X.env.scope x = true) (ex : x = ("range" : Str)) (hp : plain pa = true) (ha : PE X pa (tev X.K fa ca (evE C a) W)) : PI X tg (.Call (.Name x p2) [pa] [] p) (tevI X.K fa ca (evI C (.rng a)) W) := by
  subst ex
  refine PI_of (pi_range1 (gl_of hx).1 (hg.top.blt _ (by decide +kernel)) (pa_cons ha pa_nil (plain_star hp _ _)) (plain_star hp _ _)) fun σ H R q => ?_
  obtain ⟨A, G, S, g, s, p⟩ := q
  simp only [evI] at p
  refine (sub (rep1 := Rep X.K fa) g s p).mono fun x H1 ⟨A1, a, S1, e1, s1, r1, p1⟩ => ?_
  obtain ⟨src, hs, p1⟩ := opt_post p1
  obtain ⟨i, j, ei, rfl, hr, rfl⟩ := rngSrc_some hs
  cases ei
  cases r1
  refine ⟨j, rfl, hr.2.2.1, hr.2.2.2, p1 _ H1 A1 Ext.refl s1 ?_⟩
  rw [Int.sub_zero]
  exact rng_serves
theorem s_rng2 {a b : E} {x : Str} {tg pa pb : Expr} {p p2 : Pos} (hg : Good T fa ca k X) (hx : gl X.env.scope x = true) (ex : x = ("range" : Str)) (hp : plain pa = true) (hp2 : plain pb = true) (ha : PE X pa (tev X.K fa ca (evE C a) W)) (hb : PE X pb (tev X.K fa ca (evE C b) W)) :
    PI X tg (.Call (.Name x p2) [pa, pb] [] p) (tevI X.K fa ca (evI C (.rng2 a b)) W) := by
  subst ex
  refine PI_of (pi_range2 (gl_of hx).1 (hg.top.blt _ (by decide +kernel)) (pa_cons ha (pa_cons hb pa_nil (plain_star hp2 _ _)) (plain_star hp _ _)) (by rw [plain_star hp, plain_star hp2]; rfl) (plain_star hp2 _ _)) fun σ H R q => ?_
  obtain ⟨A, G, S, g, s, p⟩ := q
  simp only [evI] at p
  refine (sub (rep1 := Rep X.K fa) g s p).mono fun x H1 ⟨A1, a, S1, e1, s1, r1, p1⟩ => ?_
  refine (sub (rep1 := Rep X.K fa) (g.mono e1) s1 p1).mono fun y H2 ⟨A2, b, S2, e2, s2, r2, p2⟩ => ?_
  obtain ⟨src, hs, p2⟩ := opt_post p2
  obtain ⟨i, j, rfl, rfl, hr, rfl⟩ := rngSrc_some hs
  cases r1
  cases r2
  exact ⟨i, j, rfl, hr, p2 _ H2 A2 Ext.refl s2 rng_serves⟩

/-! ### targets -/
def gNs : List Nat → TGs
  | [] => gNil
  | i :: is => gCons (gName i) (gNs is)
def gT (K : PySem.W.Frag) : Tg → TG
  | .name i => gName i
  | .tup is => gTup K is.length (gNs is)
theorem pgs_names {ok : Str → Bool} (hN : X.N.Nodup) (hok : ∀ x, ok x = true → Loc X.env.scope x ∧ (X.fn x = true ∨ X.env.scope.names.lookup x = some .local)) : ∀ {is : List Nat} {es : List Expr}, mNames X.N ok is es = true → PGs X es (gNs is) ∧ (assignEach es X.env).length = is.length ∧ (assignEach es X.env).findIdx? (·.1) = none
  | [], [], _ => ⟨pgs_nil, rfl, rfl⟩
  | i :: is, .Name x p :: es, h => by
    simp only [mNames, Bool.and_eq_true, decide_eq_true_eq] at h
    obtain ⟨h1, h2, h3⟩ := pgs_names hN hok h.2.2
    obtain ⟨l, f⟩ := hok x h.2.1
    refine ⟨pgs_cons (pg_name hN h.1 l f) h1 rfl, ?_, ?_⟩
    · show (assignEach es X.env).length + 1 = _
      rw [h2]; rfl
    · show List.findIdx? (·.1) ((false, assign (.Name x p) X.env) :: assignEach es X.env) = none
      rw [List.findIdx?_cons]
      simp [h3]
  | [], _ :: _, h => by simp only [mNames] at h; cases h
  | _ :: _, [], h => by simp only [mNames] at h; cases h
theorem s_tg {ok : Str → Bool} {tg : Tg} {t : Expr} (hc : X.calm = true) (hN : X.N.Nodup) (hok : ∀ x, ok x = true → Loc X.env.scope x ∧ (X.fn x = true ∨ X.env.scope.names.lookup x = some .local)) (h : mTg X.N ok tg t = true) : PG X t (gT X.K tg) := by
  cases tg with
  | name i =>
    cases t <;> simp only [mTg] at h <;> first | (cases h; done) | skip
    simp only [Bool.and_eq_true, decide_eq_true_eq] at h
    obtain ⟨l, f⟩ := hok _ h.2
    exact pg_name hN h.1 l f
  | tup is =>
    cases t <;> simp only [mTg] at h <;> first | (cases h; done) | skip
    obtain ⟨h1, h2, h3⟩ := pgs_names hN hok h
    exact pg_tup hc h1 h2 h3
theorem wipe_get {i : Nat} : ∀ {vs : List Nat} {σ : L2.St}, (wipe σ vs)[i]? = if i ∈ vs then (if i < σ.length then some none else none) else σ[i]?
  | [], σ => by simp [wipe]
  | v :: vs, σ => by
    unfold wipe
    rw [List.getElem?_set, wipe_length, wipe_get (vs := vs)]
    by_cases hv : v = i
    · subst hv; simp
    · by_cases h2 : i ∈ vs
      · simp [hv, h2]
      · simp [hv, h2, Ne.symm hv]
theorem wipe_set {σ : L2.St} {i : Nat} {x : Option V} {vs : List Nat} (h : i ∈ vs) : wipe (σ.set i x) vs = wipe σ vs := by
  apply List.ext_getElem?
  intro j
  rw [wipe_get, wipe_get]
  split
  · simp
  · rename_i hj
    rw [List.getElem?_set_ne (by rintro rfl; exact hj h)]
theorem GRel.set {i : Nat} {v : V} {d : D} (g : GRel K fa A H σ G) (r : Rep K fa A H v d) : GRel K fa A H (σ.set i (some v)) (setV G i d) := by
  refine ⟨by simp [setV, g.1], fun j e h => ?_⟩
  unfold setV at h
  by_cases hj : i = j
  · subst hj
    by_cases hi : i < G.length
    · rw [List.getElem?_set_self hi] at h
      cases h
      exact ⟨v, by rw [List.getElem?_set_self (by rw [← g.1]; exact hi)], r⟩
    · rw [List.getElem?_eq_none (by simpa using hi)] at h; cases h
  · rw [List.getElem?_set_ne hj] at h
    rw [List.getElem?_set_ne hj]
    exact g.2 j e h
theorem gNs_run {Q : L2.St → Hp → Prop} : ∀ {is : List Nat} {xs : List V} {ds : List D} {σ : L2.St} {G G2 : Env}, RepL K fa A H xs ds → setVs G is ds = some G2 → GRel K fa A H σ G → (∀ σ2, GRel K fa A H σ2 G2 → (∀ vs : List Nat, (∀ i ∈ is, i ∈ vs) → wipe σ2 vs = wipe σ vs) → Q σ2 H) → gNs is xs σ H Q
  | [], xs, [], σ, G, G2, r, e, g, q => by
    cases r
    simp only [setVs, Option.some.injEq] at e
    subst e
    exact ⟨rfl, q σ g fun _ _ => rfl⟩
  | i :: is, xs, d :: ds, σ, G, G2, r, e, g, q => by
    cases r with
    | cons r1 r2 =>
      simp only [setVs] at e
      refine ⟨_, _, rfl, gNs_run r2 e (g.set r1) fun σ2 g2 w2 => q σ2 g2 fun vs hv => ?_⟩
      rw [w2 vs fun j hj => hv j (List.mem_cons_of_mem _ hj), wipe_set (hv i List.mem_cons_self)]
  | [], _, _ :: _, _, _, _, _, e, _, _ => by simp only [setVs] at e; cases e
  | _ :: _, _, [], _, _, _, _, e, _, _ => by simp only [setVs] at e; cases e
def Tg.ix : Tg → List Nat
  | .name i => [i]
  | .tup is => is
theorem setVs_len : ∀ {is : List Nat} {ds : List D} {G G2 : Env}, setVs G is ds = some G2 → ds.length = is.length
  | [], [], _, _, _ => rfl
  | _ :: is, _ :: ds, _, _, e => by simp only [setVs] at e; simp [setVs_len e]
  | [], _ :: _, _, _, e => by simp only [setVs] at e; cases e
  | _ :: _, [], _, _, e => by simp only [setVs] at e; cases e
theorem gT_run {Q : L2.St → Hp → Prop} {tg : Tg} {v : V} {d : D} {G2 : Env} (r : Rep K fa A H v d) (e : setTg G tg d = some G2) (g : GRel K fa A H σ G) (q : ∀ σ2, GRel K fa A H σ2 G2 → (∀ vs : List Nat, (∀ i ∈ tg.ix, i ∈ vs) → wipe σ2 vs = wipe σ vs) → Q σ2 H) : gT K tg v σ H Q := by
  cases tg with
  | name i =>
    simp only [setTg, Option.some.injEq] at e
    subst e
    exact q _ (g.set r) fun vs hv => wipe_set (hv i (by simp [Tg.ix]))
  | tup is =>
    cases d <;> simp only [setTg] at e <;> first | (cases e; done) | skip
    obtain ⟨a, xs, rfl, hs, rl⟩ := tup_sq r
    exact ⟨a, xs, rfl, hs, by rw [rl.length, setVs_len e], gNs_run rl e g q⟩
end
end NW
end
section
/- Comprehensions; the whole of expressions. -/
namespace NW
open PySem PySem.Spec L2
section
variable {T : Tb} {fa ca : Nat → Addr} {k : Nat} {X : Cx} {W : WX} {C : Calls}
variable {K : PySem.W.Frag} {A A1 A2 A' : Pl} {H H1 H2 H' : Hp} {σ : L2.St} {G : Env}
theorem wipeE_get {i : Nat} : ∀ {vs : List Nat} {G : Env}, (wipeE G vs)[i]? = if i ∈ vs then (if i < G.length then some none else none) else G[i]?
  | [], G => by simp [wipeE]
  | v :: vs, G => by
    have hl : ∀ (vs : List Nat) (G : Env), (wipeE G vs).length = G.length := fun vs => by
      induction vs with
      | nil => intro G; rfl
      | cons v vs ih => intro G; unfold wipeE; rw [List.length_set, ih]
    unfold wipeE
    rw [List.getElem?_set, hl, wipeE_get (vs := vs)]
    by_cases hv : v = i
    · subst hv; simp
    · by_cases h2 : i ∈ vs
      · simp [hv, h2]
      · simp [hv, h2, Ne.symm hv]
theorem wipeE_length : ∀ (vs : List Nat) (G : Env), (wipeE G vs).length = G.length
  | [], _ => rfl
  | v :: vs, G => by unfold wipeE; rw [List.length_set, wipeE_length vs]
theorem GRel.wipe (g : GRel K fa A H σ G) (vs : List Nat) : GRel K fa A H (L2.wipe σ vs) (wipeE G vs) := by
  refine ⟨by rw [wipeE_length, wipe_length, g.1], fun i d h => ?_⟩
  rw [wipeE_get] at h
  split at h
  · split at h <;> cases h
  · rename_i hi
    obtain ⟨v, h1, h2⟩ := g.2 i d h
    exact ⟨v, by rw [wipe_get, if_neg hi]; exact h1, h2⟩

/-- while a comprehension makes the list at D -/
structure Mid (K : PySem.W.Frag) (fa : Nat → Addr) (A1 : Pl) (H1 : Hp) (D : Addr) (A : Pl) (H : Hp) (S : Store) (acc : List V) (ds : List NW.D) : Prop where
  ext : Ext A1 H1 (A.bare A1.fb) H
  fb : A.fb = D :: A1.fb
  s : SRel K fa A H S
  at_ : H D = some (.lst acc)
  rep : RepL K fa A H acc ds
section
variable {D : Addr} {S S' : Store} {acc : List V} {ds : List NW.D}
theorem Mid.start {S1 : Store} (s : SRel K fa A1 H1 S1) (n : H1 D = none) : Mid K fa A1 H1 D (A1.guard D) (upd H1 D (.lst [])) S1 [] [] :=
  ⟨Ext.laid s n, rfl, s.guard n, upd_same, .nil⟩
theorem Mid.step (m : Mid K fa A1 H1 D A H S acc ds) (e : Ext A H A' H') (s : SRel K fa A' H' S') : Mid K fa A1 H1 D A' H' S' acc ds where
  ext := by
    refine ⟨?_, rfl, fun b h1 h2 => ?_, fun a o h1 h2 => ?_⟩
    · obtain ⟨B, h⟩ := m.ext.pre
      obtain ⟨B2, h2⟩ := e.pre
      have h' : A.pl = A1.pl ++ B := h
      exact ⟨B ++ B2, by show A'.pl = _; rw [h2, h', List.append_assoc]⟩
    · by_cases hb : b ∈ A.pl
      · exact m.ext.new b hb h2
      · have q := e.new b h1 hb
        cases q2 : H1 b with
        | none => rfl
        | some o => rw [m.ext.keep b o h2 q2] at q; cases q
    · exact e.keep a o (m.ext.notin h2 h1) (m.ext.keep a o h1 h2)
  fb := e.fb.trans m.fb
  s := s
  at_ := e.keep D _ (m.s.fbt D (by rw [m.fb]; exact List.mem_cons_self)).2 m.at_
  rep := RepL.mono e _ _ m.rep
theorem Mid.car (m : Mid K fa A1 H1 D A H S acc ds) (n : H1 D = none) : Car A1 H1 A H :=
  ⟨fun n a h => m.ext.at h, fun a o h1 h2 h => ⟨m.ext.keep a o h1 h, m.ext.notin h h1, by rw [m.fb]; exact fun z => (List.mem_cons.mp z).elim (ne_of_none h n) h2⟩⟩
theorem Mid.push (m : Mid K fa A1 H1 D A H S acc ds) (n : H1 D = none) {v : V} {d : NW.D} (r : Rep K fa A H v d) : Mid K fa A1 H1 D A (upd H D (.lst (acc ++ [v]))) S (acc ++ [v]) (ds ++ [d]) := by
  have hD : D ∈ A.fb := by rw [m.fb]; exact List.mem_cons_self
  refine ⟨⟨m.ext.pre, m.ext.fb, m.ext.new, fun a o h1 h2 => ?_⟩, m.fb, m.s.off hD, upd_same, ?_⟩
  · rw [upd_ne (ne_of_none h2 n)]
    exact m.ext.keep a o h1 h2
  · exact RepL.carry (fun _ _ m => m) (off_rep hD) _ _ (m.rep.append (.cons r .nil))
end

def tcond (K : PySem.W.Frag) (fa ca : Nat → Addr) : Option ME → TT
  | none => tYes
  | some c => tevT K fa ca c W0
/-- the run of a comprehension's turns -/
theorem comp_run {own : List (Str × Nat)} {tg : Tg} {c : Option ME} {elt : ME} {src : Src} {D : Addr} {J : L2.It} {S1 : Store} {Q : VK} {Wx : Value → Option Addr → Hp → Prop}
    (g : GRel K fa A1 H1 σ G) (s1 : SRel K fa A1 H1 S1) (sv : Serves K fa A1 H1 J src) (hix : ∀ i ∈ tg.ix, i ∈ own.map (·.2)) (hD : H1 D = none)
    (p : RPost K fa ca (Rep K fa) (compGo tg c elt src (wipeE G (own.map (·.2))) src.items [] S1) A1 H1 Q Wx) :
    ∃ W : Nat → Nat → Hp → Prop, (∃ m, W 0 m (upd H1 D (.lst []))) ∧ ∀ i m H, W i m H →
      (J.stop i H ∧ Q (.ref D) H) ∨ (J.go i H ∧ ∃ Nx : Hp → Prop, (∀ H', Nx H' → ∃ m', m' < m ∧ W (i + 1) m' H') ∧ ∀ x H', J.yld i H x H' → gT K tg x (wipe σ (own.map (·.2))) H' fun σ2 H2 => wipe σ2 (own.map (·.2)) = wipe σ (own.map (·.2)) ∧ tcond K fa ca c σ2 H2 fun b H3 =>
        if b = true then tev K fa ca elt W0 σ2 H3 fun y H4 => ∃ acc, H4 D = some (.lst acc) ∧ acc.length < sizeLine ∧ Nx (upd H4 D (.lst (acc ++ [y]))) else Nx H3) := by
  generalize hr0 : compGo tg c elt src (wipeE G (own.map (·.2))) src.items [] S1 = r0 at p
  have nb : r0 ≠ .bad := by rintro rfl; exact p
  refine ⟨fun i m H => i ≤ src.items.length ∧ m = src.items.length - i ∧ ∃ A S acc ds, Mid K fa A1 H1 D A H S acc ds ∧ compGo tg c elt src (wipeE G (own.map (·.2))) (src.items.drop i) ds S = r0,
    ⟨_, Nat.zero_le _, rfl, _, S1, [], [], Mid.start s1 hD, hr0⟩, ?_⟩
  rintro i m H ⟨hi, rfl, A, S, acc, ds, md, hr⟩
  by_cases hlt : i < src.items.length
  · rw [List.drop_eq_getElem_cons hlt] at hr
    simp only [compGo] at hr
    split at hr
    · rename_i hst
      simp only [Bool.and_eq_true, decide_eq_true_eq] at hst
      obtain ⟨sv1, _⟩ := sv A H S (md.car hD) md.s hst.1
      obtain ⟨go, yl⟩ := sv1 i _ (List.getElem?_eq_getElem hlt)
      refine .inr ⟨go, fun H' => ∃ A S acc ds, Mid K fa A1 H1 D A H' S acc ds ∧ compGo tg c elt src (wipeE G (own.map (·.2))) (src.items.drop (i + 1)) ds S = r0, fun H' h => ⟨_, by omega, hlt, rfl, h⟩, fun x H' y => ?_⟩
      obtain ⟨e, rx⟩ := yl x H' y
      subst e
      split at hr
      · exact absurd hr.symm nb
      · rename_i G2 hG
        refine gT_run rx hG (((md.car hD).grel g).wipe (own.map (·.2))) fun σ2 g2 hw => ⟨?_, ?_⟩
        · rw [hw _ hix]
          apply List.ext_getElem?
          intro j
          rw [wipe_get, wipe_get, wipe_length]
          by_cases hj : j ∈ own.map (·.2) <;> simp [hj]
        · -- the element
          have elem : ∀ {A3 : Pl} {H3 : Hp} {S3 : Store}, Mid K fa A1 H1 D A3 H3 S3 acc ds → GRel K fa A3 H3 σ2 G2 → noEx (elt G2 S3) (fun d S2 => compGo tg c elt src (wipeE G (own.map (·.2))) (src.items.drop (i + 1)) (ds ++ [d]) S2) = r0 →
              tev K fa ca elt W0 σ2 H3 fun y H4 => ∃ acc, H4 D = some (.lst acc) ∧ acc.length < sizeLine ∧ ∃ A S acc' ds, Mid K fa A1 H1 D A (upd H4 D (.lst (acc ++ [y]))) S acc' ds ∧ compGo tg c elt src (wipeE G (own.map (·.2))) (src.items.drop (i + 1)) ds S = r0 := by
            intro A3 H3 S3 m3 g3 h3
            refine ⟨A3, G2, S3, g3, m3.s, ?_⟩
            cases he : elt G2 S3 with
            | bad => rw [he] at h3; exact absurd h3.symm nb
            | exc x S4 => rw [he] at h3; exact absurd h3.symm nb
            | ok d S4 =>
              rw [he] at h3
              intro y H4 A4 e4 s4 r4
              have m4 := m3.step e4 s4
              exact ⟨acc, m4.at_, by rw [m4.rep.length, ← line_eq]; exact hst.2, A4, S4, _, _, m4.push hD r4, h3⟩
          unfold compTurn at hr
          cases c with
          | none =>
            simp only [tcond, tYes, if_true]
            exact elem md g2 hr
          | some c' =>
            refine ⟨A, G2, S, g2, md.s, ?_⟩
            dsimp only at hr ⊢
            cases hc : c' G2 S with
            | bad => rw [hc] at hr; exact absurd hr.symm nb
            | exc x S4 => rw [hc] at hr; exact absurd hr.symm nb
            | ok t S4 =>
              rw [hc] at hr
              cases t with
              | bl t =>
                intro b H4 A4 e4 s4 hb
                subst hb
                have m4 := md.step e4 s4
                cases b with
                | true =>
                  rw [if_pos rfl]
                  exact elem m4 (g2.mono e4) hr
                | false =>
                  rw [if_neg Bool.false_ne_true]
                  exact ⟨A4, S4, acc, ds, m4, hr⟩
              | non => exact absurd hr.symm nb
              | int _ => exact absurd hr.symm nb
              | str _ => exact absurd hr.symm nb
              | tup _ => exact absurd hr.symm nb
              | lst _ => exact absurd hr.symm nb
              | loc _ => exact absurd hr.symm nb
              | fn _ => exact absurd hr.symm nb
              | scr _ => exact absurd hr.symm nb
    · exact absurd hr.symm nb
  · have e : i = src.items.length := by omega
    subst e
    rw [List.drop_eq_nil_of_le (Nat.le_refl _)] at hr
    simp only [compGo] at hr
    split at hr
    · rename_i hst
      obtain ⟨_, st⟩ := sv A H S (md.car hD) md.s hst
      refine .inl ⟨st _ (Nat.le_refl _), ?_⟩
      subst hr
      refine p (.ref D) H (A.bare A1.fb) md.ext (md.s.bare fun b hb => by rw [md.fb]; exact List.mem_cons_of_mem _ hb) ?_
      have hDp : D ∉ A.pl := (md.s.fbt D (by rw [md.fb]; exact List.mem_cons_self)).2
      exact .lst md.at_ hDp (s1.freshB hD) (RepL.bare (fun b hb => by rw [md.fb]; exact List.mem_cons_of_mem _ hb) _ _ md.rep)
    · exact absurd hr.symm nb
theorem own_ix {own : List (Str × Nat)} {N : List Str} {scope : Scope} (hN : N.Nodup) {sc : Scope} (ok : BlkOk N sc scope own) : ∀ {is : List Nat} {es : List Expr}, mNames N (loc scope) is es = true → ∀ i ∈ is, i ∈ own.map (·.2)
  | [], _, _ => fun i h => by cases h
  | i :: is, .Name x p :: es, h => fun j hj => by
    simp only [mNames, Bool.and_eq_true, decide_eq_true_eq] at h
    rcases List.mem_cons.mp hj with rfl | hj
    · have hl := h.2.1
      unfold loc at hl
      simp only [Bool.or_eq_true, decide_eq_true_eq] at hl
      have hm : ∃ kd, (x, kd) ∈ scope.names ∧ (kd = .local ∨ kd = .cell) := by
        rcases hl with q | q
        · exact ⟨_, PySem.mem_of_lookup q, .inl rfl⟩
        · exact ⟨_, PySem.mem_of_lookup q, .inr rfl⟩
      obtain ⟨kd, hm, hk⟩ := hm
      rcases ok.own _ hm hk with q | q
      · obtain ⟨p, hp, e⟩ := List.mem_map.mp q
        have e1 := ok.ix p hp
        have e2 : p.2 = j := nodup_ix hN (by rw [e1, e]) h.1
        exact List.mem_map.mpr ⟨p, hp, e2⟩
      · exact absurd (List.mem_of_getElem? h.1) q
    · exact own_ix hN ok h.2.2 j hj
  | i :: is, [], h => by simp only [mNames] at h; cases h
  | i :: is, .BoolOp .. :: es, h => by simp only [mNames] at h; cases h
  | i :: is, .NamedExpr .. :: es, h => by simp only [mNames] at h; cases h
  | i :: is, .BinOp .. :: es, h => by simp only [mNames] at h; cases h
  | i :: is, .UnaryOp .. :: es, h => by simp only [mNames] at h; cases h
  | i :: is, .Lambda .. :: es, h => by simp only [mNames] at h; cases h
  | i :: is, .IfExp .. :: es, h => by simp only [mNames] at h; cases h
  | i :: is, .Dict .. :: es, h => by simp only [mNames] at h; cases h
  | i :: is, .Set .. :: es, h => by simp only [mNames] at h; cases h
  | i :: is, .ListComp .. :: es, h => by simp only [mNames] at h; cases h
  | i :: is, .SetComp .. :: es, h => by simp only [mNames] at h; cases h
  | i :: is, .DictComp .. :: es, h => by simp only [mNames] at h; cases h
  | i :: is, .GeneratorExp .. :: es, h => by simp only [mNames] at h; cases h
  | i :: is, .Await .. :: es, h => by simp only [mNames] at h; cases h
  | i :: is, .Yield .. :: es, h => by simp only [mNames] at h; cases h
  | i :: is, .YieldFrom .. :: es, h => by simp only [mNames] at h; cases h
  | i :: is, .Compare .. :: es, h => by simp only [mNames] at h; cases h
  | i :: is, .Call .. :: es, h => by simp only [mNames] at h; cases h
  | i :: is, .FormattedValue .. :: es, h => by simp only [mNames] at h; cases h
  | i :: is, .JoinedStr .. :: es, h => by simp only [mNames] at h; cases h
  | i :: is, .Constant .. :: es, h => by simp only [mNames] at h; cases h
  | i :: is, .Attribute .. :: es, h => by simp only [mNames] at h; cases h
  | i :: is, .Subscript .. :: es, h => by simp only [mNames] at h; cases h
  | i :: is, .Starred .. :: es, h => by simp only [mNames] at h; cases h
  | i :: is, .List .. :: es, h => by simp only [mNames] at h; cases h
  | i :: is, .Tuple .. :: es, h => by simp only [mNames] at h; cases h
  | i :: is, .Slice .. :: es, h => by simp only [mNames] at h; cases h
theorem tg_ix {own : List (Str × Nat)} {N : List Str} {scope sc : Scope} (hN : N.Nodup) (ok : BlkOk N sc scope own) {tg : Tg} {t : Expr} (h : mTg N (loc scope) tg t = true) : ∀ i ∈ tg.ix, i ∈ own.map (·.2) := by
  cases tg with
  | name i =>
    cases t <;> simp only [mTg] at h <;> first | (cases h; done) | skip
    rename_i x p
    refine own_ix hN ok (is := [i]) (es := [.Name x p]) ?_
    simp only [mNames, Bool.and_true]
    exact h
  | tup is =>
    cases t <;> simp only [mTg] at h <;> first | (cases h; done) | skip
    exact own_ix hN ok h
/-- a comprehension's parts -/
structure CompOk (T : Tb) (fa ca : Nat → Addr) (X : Cx) (W : WX) (C : Calls) (elt : E) (own : List (Str × Nat)) (tg : Tg) (it : It) (c : Oe) (q t i : Expr) (ifs : List Expr) (scope : Scope) : Prop where
  ok : BlkOk X.N X.env.scope scope own
  htg : mTg X.N (loc scope) tg t = true
  hit : PI X t i (tevI X.K fa ca (evI C it) W)
  hpl : plain i = true
  pg : ∀ (s : Shared) (H : Hp) (Cc : Addr) (cl : List (Str × Addr)) (fp : List Addr), PG (X.blk s H scope (compEnvC scope cl Cc X.env) fp) t (gT X.K tg)
  pt : ∀ (s : Shared) (H : Hp) (Cc : Addr) (cl : List (Str × Addr)) (fp : List Addr), PTs (X.blk s H scope (compEnvC scope cl Cc X.env) fp) ifs (tcond X.K fa ca (evC C c))
  pe : ∀ (s : Shared) (H : Hp) (Cc : Addr) (cl : List (Str × Addr)) (fp : List Addr), PE (X.blk s H scope (compEnvC scope cl Cc X.env) fp) q (tev X.K fa ca (evE C elt) W0)
theorem CompOk.reads {elt : E} {own : List (Str × Nat)} {tg : Tg} {it : It} {c : Oe} {q t i : Expr} {ifs : List Expr} {scope : Scope} (hg : Good T fa ca k X) (o : CompOk T fa ca X W C elt own tg it c q t i ifs scope) {σ : L2.St} {H : Hp} {Q : VK}
    (h : tev X.K fa ca (evE C (.comp elt own tg it c)) W σ H Q) : tLc (tevI X.K fa ca (evI C it) W) (gT X.K tg) (tcond X.K fa ca (evC C c)) (tev X.K fa ca (evE C elt) W0) (own.map (·.2)) σ H Q := by
  obtain ⟨A, G, S, g, s, p⟩ := h
  simp only [evE] at p
  refine (sub (rep1 := Serves X.K fa) g s p).mono fun J H1 ⟨A1, src, S1, e1, s1, r1, p1⟩ => ?_
  intro D hD
  exact comp_run (g.mono e1) s1 r1 (tg_ix hg.nd o.ok o.htg) hD p1
theorem s_comp {elt : E} {own : List (Str × Nat)} {tg : Tg} {it : It} {c : Oe} {q t i : Expr} {ifs : List Expr} {scope : Scope} {p : Pos} (hg : Good T fa ca k X) (o : CompOk T fa ca X W C elt own tg it c q t i ifs scope) :
    PE X (.ListComp q [⟨t, i, ifs, 0⟩] scope p) (tev X.K fa ca (evE C (.comp elt own tg it c)) W) :=
  PE_of (pe_lc hg.calm hg.nd o.hit o.ok o.pg o.pt o.pe (plain_fold o.hpl _)) fun σ H Q h => o.reads hg h
/-! ### all expressions -/
def nonTest : Expr → Bool
  | .UnaryOp .Not _ _ => false
  | .BoolOp .. => false
  | .IfExp .. => false
  | .Compare .. => false
  | _ => true
theorem he_of {pe : Expr} (h : nonTest pe = true) (env : PySem.Env) : ∀ whole, PySem.isTrue pe env whole = (do let v ← whole; standAt pe.pos; holding [v] (truthy v)) := by
  intro whole
  cases pe <;> first | rfl | (simp only [nonTest] at h; cases h; done) | skip
  rename_i op e p
  cases op <;> first | rfl | (simp only [nonTest] at h; cases h; done)
theorem loc_of {scope sc : Scope} {x : Str} (h : loc scope x = true) : Loc (relS scope sc) x ∧ ((scope.names.lookup x == some NameKind.cell) = true ∨ (relS scope sc).names.lookup x = some .local) := by
  unfold loc at h
  simp only [Bool.or_eq_true, decide_eq_true_eq] at h
  rcases h with h | h
  · have q := lookup_relS_keep (sc := sc) (by decide) h
    exact ⟨.inl q, .inr q⟩
  · have q := lookup_relS_keep (sc := sc) (by decide) h
    exact ⟨.inr q, .inl (by rw [h]; rfl)⟩
theorem both {m : ME} {pe : Expr} (h : PE X pe (tev X.K fa ca m W)) (hn : nonTest pe = true) : PE X pe (tev X.K fa ca m W) ∧ PT X pe (tevT X.K fa ca m W) := ⟨h, s_val h (he_of hn _)⟩
mutual
theorem sE : ∀ (e : E) (X : Cx) (W : WX) (pe : Expr), Good T fa ca k X → Takes X W → mE T X.N e X.env.scope pe = true →
    PE X pe (tev X.K fa ca (evE (callN T.fn k) e) W) ∧ PT X pe (tevT X.K fa ca (evE (callN T.fn k) e) W)
  | .var i, X, W, pe, hg, tk, h => by
    cases pe <;> (try simp only [mE] at h) <;> first | (cases h; done) | skip
    simp only [Bool.and_eq_true, decide_eq_true_eq] at h
    exact both (s_var (fa := fa) (ca := ca) (W := W) (C := callN T.fn k) h.1 h.2) rfl
  | .non, X, W, pe, hg, tk, h => by
    cases pe <;> (try simp only [mE] at h) <;> first | (cases h; done) | skip
    rename_i c j p
    cases c <;> (try simp only [mE] at h) <;> first | (cases h; done) | skip
    exact both (s_leaf (fa := fa) (ca := ca) (W := W) (m := evE (callN T.fn k) .non) (pe_non (X := X) (j := j) (pos := p)) (fun _ _ => .non) (fun G S => by simp only [evE])) rfl
  | .bl b, X, W, pe, hg, tk, h => by
    cases pe <;> (try simp only [mE] at h) <;> first | (cases h; done) | skip
    rename_i c j p
    cases c <;> (try simp only [mE] at h) <;> first | (cases h; done) | skip
    have h := of_decide_eq_true h
    subst h
    exact both (s_leaf (fa := fa) (ca := ca) (W := W) (m := evE (callN T.fn k) (.bl b)) (pe_bl (X := X) (b := b) (j := j) (pos := p)) (fun _ _ => .bl b) (fun G S => by simp only [evE])) rfl
  | .int b, X, W, pe, hg, tk, h => by
    cases pe <;> (try simp only [mE] at h) <;> first | (cases h; done) | skip
    rename_i c j p
    cases c <;> (try simp only [mE] at h) <;> first | (cases h; done) | skip
    have h := of_decide_eq_true h
    subst h
    exact both (s_leaf (fa := fa) (ca := ca) (W := W) (m := evE (callN T.fn k) (.int b)) (pe_int (X := X) (i := b) (j := j) (pos := p)) (fun _ _ => .int b) (fun G S => by simp only [evE])) rfl
  | .str b, X, W, pe, hg, tk, h => by
    cases pe <;> (try simp only [mE] at h) <;> first | (cases h; done) | skip
    rename_i c j p
    cases c <;> (try simp only [mE] at h) <;> first | (cases h; done) | skip
    have h := of_decide_eq_true h
    subst h
    exact both (s_leaf (fa := fa) (ca := ca) (W := W) (m := evE (callN T.fn k) (.str b)) (pe_str (X := X) (x := b) (j := j) (pos := p)) (fun _ _ => .str b) (fun G S => by simp only [evE])) rfl
  | .cst x d, X, W, pe, hg, tk, h => by
    cases pe <;> (try simp only [mE] at h) <;> first | (cases h; done) | skip
    simp only [Bool.and_eq_true, decide_eq_true_eq] at h
    obtain ⟨rfl, h1, h2⟩ := h
    cases hc : T.cst x with
    | none => rw [hc] at h2; cases h2
    | some d' =>
      rw [hc] at h2
      have e := D.same_eq _ _ h2
      subst e
      obtain ⟨v, u, m1, m2, m3⟩ := hg.top.cst x d hc
      obtain ⟨g1, g2⟩ := gl_of h1
      exact both (s_leaf (fa := fa) (ca := ca) (W := W) (m := evE (callN T.fn k) (.cst x d)) (pe_glob (X := X) g1 m1 m2 (okN_of g2).1) m3 (fun G S => by simp only [evE])) rfl
  | .bin op a b, X, W, pe, hg, tk, h => by
    cases pe <;> (try simp only [mE] at h) <;> first | (cases h; done) | skip
    simp only [Bool.and_eq_true, decide_eq_true_eq] at h
    obtain ⟨rfl, h1, h2⟩ := h
    exact both (s_bin (m := evE (callN T.fn k) (.bin op a b)) (sE a X W _ hg tk h1).1 (sE b X W _ hg tk h2).1 (fun G S => by simp only [evE])) rfl
  | .neg a, X, W, pe, hg, tk, h => by
    cases pe <;> (try simp only [mE] at h) <;> first | (cases h; done) | skip
    rename_i op p pos
    cases op <;> (try simp only [mE] at h) <;> first | (cases h; done) | skip
    exact both (s_neg (m := evE (callN T.fn k) (.neg a)) (sE a X W _ hg tk h).1 (fun G S => by simp only [evE])) rfl
  | .cmp op a b, X, W, pe, hg, tk, h => by
    cases pe <;> (try simp only [mE] at h) <;> first | (cases h; done) | skip
    rename_i p ops qs pos
    cases ops with
    | nil => simp only [mE] at h; cases h
    | cons o ops =>
      cases ops with
      | cons o2 ops => cases qs with
        | nil => simp only [mE] at h; cases h
        | cons q qs => cases qs <;> simp only [mE] at h <;> cases h
      | nil =>
        cases qs with
        | nil => simp only [mE] at h; cases h
        | cons q qs =>
          cases qs with
          | cons q2 qs => simp only [mE] at h; cases h
          | nil =>
            simp only [mE, Bool.and_eq_true, decide_eq_true_eq] at h
            obtain ⟨rfl, h0, h1, h2⟩ := h
            exact s_cmp (m := evE (callN T.fn k) (.cmp op a b)) hg h0 (sE a X W _ hg tk h1).1 (sE b X W _ hg tk h2).1 (fun G S => by simp only [evE])
  | .chn op op' a b c, X, W, pe, hg, tk, h => by
    cases pe <;> (try simp only [mE] at h) <;> first | (cases h; done) | skip
    rename_i p ops qs pos
    match ops, qs, h with
    | [o, o'], [q, r], h =>
      simp only [mE, Bool.and_eq_true, decide_eq_true_eq] at h
      obtain ⟨rfl, rfl, h0, h1, h2, h3⟩ := h
      exact s_chn (m := evE (callN T.fn k) (.chn op op' a b c)) hg h0 (sE a X W _ hg tk h1).1 (sE b X W _ hg tk h2).1 (sE c X W _ hg tk h3).1 (fun G S => by simp only [evE])
  | .and es, X, W, pe, hg, tk, h => by
    cases pe <;> (try simp only [mE] at h) <;> first | (cases h; done) | skip
    rename_i op qs pos
    cases op <;> (try simp only [mE] at h) <;> first | (cases h; done) | skip
    have q := sAnd es X W qs pos hg tk h
    refine ⟨PE_of q.1 fun σ H Q ⟨A, G, S, g, s, p⟩ => ⟨A, G, S, g, s, by simpa only [evE] using p⟩, PT_of q.2.pt fun σ H Q ⟨A, G, S, g, s, p⟩ => ⟨A, G, S, g, s, by simpa only [evE] using p⟩⟩
  | .or es, X, W, pe, hg, tk, h => by
    cases pe <;> (try simp only [mE] at h) <;> first | (cases h; done) | skip
    rename_i op qs pos
    cases op <;> (try simp only [mE] at h) <;> first | (cases h; done) | skip
    have q := sOr es X W qs pos hg tk h
    refine ⟨PE_of q.1 fun σ H Q ⟨A, G, S, g, s, p⟩ => ⟨A, G, S, g, s, by simpa only [evE] using p⟩, PT_of q.2.pt fun σ H Q ⟨A, G, S, g, s, p⟩ => ⟨A, G, S, g, s, by simpa only [evE] using p⟩⟩
  | .not a, X, W, pe, hg, tk, h => by
    cases pe <;> (try simp only [mE] at h) <;> first | (cases h; done) | skip
    rename_i op p pos
    cases op <;> (try simp only [mE] at h) <;> first | (cases h; done) | skip
    exact s_not (m := evE (callN T.fn k) (.not a)) (sE a X W _ hg tk h) (fun G S => by simp only [evE])
  | .ite c a b, X, W, pe, hg, tk, h => by
    cases pe <;> (try simp only [mE] at h) <;> first | (cases h; done) | skip
    simp only [Bool.and_eq_true] at h
    exact s_ite (m := evE (callN T.fn k) (.ite c a b)) (sE c X W _ hg tk h.1).2 (sE a X W _ hg tk h.2.1) (sE b X W _ hg tk h.2.2) (fun G S => by simp only [evE])
  | .tup es, X, W, pe, hg, tk, h => by
    cases pe <;> (try simp only [mE] at h) <;> first | (cases h; done) | skip
    exact both (s_tup (sEs es X W _ hg tk h)) rfl
  | .lst es, X, W, pe, hg, tk, h => by
    cases pe <;> (try simp only [mE] at h) <;> first | (cases h; done) | skip
    exact both (s_lst (sEs es X W _ hg tk h)) rfl
  | .nlst es, X, W, pe, hg, tk, h => by
    cases pe <;> (try simp only [mE] at h) <;> first | (cases h; done) | skip
    exact both (s_nlst (sEs es X W _ hg tk h)) rfl
  | .idx a i, X, W, pe, hg, tk, h => by
    cases pe <;> (try simp only [mE] at h) <;> first | (cases h; done) | skip
    simp only [Bool.and_eq_true] at h
    exact both (s_idx h.1 (sE a X W _ hg tk h.2.1).1 (sE i X W _ hg tk h.2.2).1) rfl
  | .sl a lo hi, X, W, pe, hg, tk, h => by
    cases pe <;> (try simp only [mE] at h) <;> first | (cases h; done) | skip
    rename_i pv sl pos
    cases sl <;> (try simp only [mE] at h) <;> first | (cases h; done) | skip
    rename_i l u st p2
    cases st <;> (try simp only [mE] at h) <;> first | (cases h; done) | skip
    simp only [Bool.and_eq_true] at h
    exact both (s_sl (sE a X W _ hg tk h.1).1 (sO lo X W _ hg tk h.2.1) (sO hi X W _ hg tk h.2.2)) rfl
  | .call f es, X, W, pe, hg, tk, h => by
    cases pe <;> (try simp only [mE] at h) <;> first | (cases h; done) | skip
    rename_i fn qs kws pos
    cases fn <;> (try simp only [mE] at h) <;> first | (cases h; done) | skip
    cases kws <;> (try simp only [mE] at h) <;> first | (cases h; done) | skip
    simp only [Bool.and_eq_true] at h
    obtain ⟨h1, h2, h3⟩ := h
    cases hf : T.fn f with
    | none => rw [hf] at h2; cases h2
    | some fd =>
      rw [hf] at h2
      exact both (s_call hg tk hf h1 (of_decide_eq_true h2) (mEs_plain h3) h3 (sEs es X W _ hg tk h3)) rfl
  | .cb f es, X, W, pe, hg, tk, h => by
    cases pe <;> (try simp only [mE] at h) <;> first | (cases h; done) | skip
    rename_i fn qs kws pos
    cases fn <;> (try simp only [mE] at h) <;> first | (cases h; done) | skip
    cases kws <;> (try simp only [mE] at h) <;> first | (cases h; done) | skip
    simp only [Bool.and_eq_true, Bool.not_eq_true', decide_eq_true_eq] at h
    exact both (s_cb hg h.1 h.2.1 h.2.2.1 (mEs_plain h.2.2.2) (sEs es X W _ hg tk h.2.2.2)) rfl
  | .isi a t, X, W, pe, hg, tk, h => by
    cases pe <;> (try simp only [mE] at h) <;> first | (cases h; done) | skip
    rename_i fn qs kws pos
    match fn, qs, kws, h with
    | .Name x _, [p, .Name y _], [], h =>
      simp only [mE, Bool.and_eq_true, decide_eq_true_eq] at h
      exact both (s_isi hg h.1 h.2.1 h.2.2.1 h.2.2.2.1 h.2.2.2.2.1 (sE a X W _ hg tk h.2.2.2.2.2).1) rfl
  | .comp elt own tg it c, X, W, pe, hg, tk, h => by
    cases pe <;> (try simp only [mE] at h) <;> first | (cases h; done) | skip
    rename_i q gs scope pos
    match gs, h with
    | [⟨t, i, ifs, 0⟩], h =>
      simp only [mE, Bool.and_eq_true] at h
      obtain ⟨h1, h2, h3, h4, h5, h6⟩ := h
      exact both (s_comp hg ⟨blkOk_by h1, h2, sI it X W t i hg tk h3, h4, fun s H Cc cl fp => s_tg (X := X.blk s H scope (compEnvC scope cl Cc X.env) fp) hg.calm hg.nd (fun x hx => loc_of hx) h2,
        fun s H Cc cl fp => sC c (X.blk s H scope (compEnvC scope cl Cc X.env) fp) ifs (hg.blk ..) h5, fun s H Cc cl fp => (sE elt (X.blk s H scope (compEnvC scope cl Cc X.env) fp) W0 q (hg.blk ..) takes0 h6).1⟩) rfl
theorem sEs : ∀ (es : Es) (X : Cx) (W : WX) (ps : List Expr), Good T fa ca k X → Takes X W → mEs T X.N es X.env.scope ps = true → PA X ps (tevs X.K fa ca (evEs (callN T.fn k) es) W)
  | .nil, X, W, [], _, _, _ => s_nil
  | .cons e es, X, W, p :: ps, hg, tk, h => by
    simp only [mEs, Bool.and_eq_true] at h
    exact s_cons h.1 (sE e X W p hg tk h.2.1).1 (sEs es X W ps hg tk h.2.2)
  | .nil, _, _, _ :: _, _, _, h => by simp only [mEs] at h; cases h
  | .cons _ _, _, _, [], _, _, h => by simp only [mEs] at h; cases h
theorem sAnd : ∀ (es : Es) (X : Cx) (W : WX) (ps : List Expr) (pos : Pos), Good T fa ca k X → Takes X W → mEs T X.N es X.env.scope ps = true →
    PE X (.BoolOp .And ps pos) (tev X.K fa ca (evAnd (callN T.fn k) es) W) ∧ PW X (.BoolOp .And ps pos) (tevT X.K fa ca (evAnd (callN T.fn k) es) W)
  | .nil, X, W, ps, pos, _, _, _ => by
    have no : ∀ {σ H} {Q : VK}, ¬ tev X.K fa ca (evAnd (callN T.fn k) .nil) W σ H Q := fun {σ H Q} ⟨A, G, S, g, s, p⟩ => by simp only [evAnd] at p; exact p
    have no2 : ∀ {σ H} {Q : Bool → Hp → Prop}, ¬ tevT X.K fa ca (evAnd (callN T.fn k) .nil) W σ H Q := fun {σ H Q} ⟨A, G, S, g, s, p⟩ => by simp only [evAnd, R.toB, R.bind] at p; exact p
    exact ⟨⟨fun _ _ _ _ _ _ h => absurd h no⟩, ⟨fun _ _ _ _ _ _ _ h => absurd h no2⟩⟩
  | .cons e .nil, X, W, [p], pos, hg, tk, h => by
    simp only [mEs, Bool.and_eq_true] at h
    exact s_and1 (sE e X W p hg tk h.2.1) (evAnd_one e)
  | .cons e (.cons e2 es), X, W, p :: p2 :: ps, pos, hg, tk, h => by
    simp only [mEs, Bool.and_eq_true] at h
    refine s_andc (sE e X W p hg tk h.2.1) (sAnd (.cons e2 es) X W (p2 :: ps) pos hg tk ?_) (evAnd_more e e2 es)
    simp only [mEs, Bool.and_eq_true]
    exact h.2.2
  | .cons e .nil, _, _, p :: p2 :: ps, _, _, _, h => by simp only [mEs, Bool.and_eq_true] at h; exact absurd h.2.2 (by simp)
  | .cons e (.cons _ _), _, _, [p], _, _, _, h => by simp only [mEs, Bool.and_eq_true] at h; exact absurd h.2.2 (by simp)
  | .cons _ _, _, _, [], _, _, _, h => by simp only [mEs] at h; cases h
theorem sOr : ∀ (es : Es) (X : Cx) (W : WX) (ps : List Expr) (pos : Pos), Good T fa ca k X → Takes X W → mEs T X.N es X.env.scope ps = true →
    PE X (.BoolOp .Or ps pos) (tev X.K fa ca (evOr (callN T.fn k) es) W) ∧ PW X (.BoolOp .Or ps pos) (tevT X.K fa ca (evOr (callN T.fn k) es) W)
  | .nil, X, W, ps, pos, _, _, _ => by
    have no : ∀ {σ H} {Q : VK}, ¬ tev X.K fa ca (evOr (callN T.fn k) .nil) W σ H Q := fun {σ H Q} ⟨A, G, S, g, s, p⟩ => by simp only [evOr] at p; exact p
    have no2 : ∀ {σ H} {Q : Bool → Hp → Prop}, ¬ tevT X.K fa ca (evOr (callN T.fn k) .nil) W σ H Q := fun {σ H Q} ⟨A, G, S, g, s, p⟩ => by simp only [evOr, R.toB, R.bind] at p; exact p
    exact ⟨⟨fun _ _ _ _ _ _ h => absurd h no⟩, ⟨fun _ _ _ _ _ _ _ h => absurd h no2⟩⟩
  | .cons e .nil, X, W, [p], pos, hg, tk, h => by
    simp only [mEs, Bool.and_eq_true] at h
    exact s_or1 (sE e X W p hg tk h.2.1) (evOr_one e)
  | .cons e (.cons e2 es), X, W, p :: p2 :: ps, pos, hg, tk, h => by
    simp only [mEs, Bool.and_eq_true] at h
    refine s_orc (sE e X W p hg tk h.2.1) (sOr (.cons e2 es) X W (p2 :: ps) pos hg tk ?_) (evOr_more e e2 es)
    simp only [mEs, Bool.and_eq_true]
    exact h.2.2
  | .cons e .nil, _, _, p :: p2 :: ps, _, _, _, h => by simp only [mEs, Bool.and_eq_true] at h; exact absurd h.2.2 (by simp)
  | .cons e (.cons _ _), _, _, [p], _, _, _, h => by simp only [mEs, Bool.and_eq_true] at h; exact absurd h.2.2 (by simp)
  | .cons _ _, _, _, [], _, _, _, h => by simp only [mEs] at h; cases h
theorem sO : ∀ (o : Oe) (X : Cx) (W : WX) (p : Option Expr), Good T fa ca k X → Takes X W → mO T X.N o X.env.scope p = true → PO X p (tevG X.K fa ca RepP (evO (callN T.fn k) o) W)
  | .none, X, W, none, _, _, _ => s_none
  | .some e, X, W, some p, hg, tk, h => by
    simp only [mO] at h
    exact s_some (sE e X W p hg tk h).1
  | .none, _, _, some _, _, _, h => by simp only [mO] at h; cases h
  | .some _, _, _, none, _, _, h => by simp only [mO] at h; cases h
theorem sC : ∀ (o : Oe) (X : Cx) (ps : List Expr), Good T fa ca k X → mC T X.N o X.env.scope ps = true → PTs X ps (tcond X.K fa ca (evC (callN T.fn k) o))
  | .none, X, [], _, _ => by simp only [evC, tcond]; exact pts_nil
  | .some e, X, [p], hg, h => by
    simp only [mC] at h
    simp only [evC, tcond]
    exact pts_one (sE e X W0 p hg takes0 h).2
  | .none, _, _ :: _, _, h => by simp only [mC] at h; cases h
  | .some _, _, [], _, h => by simp only [mC] at h; cases h
  | .some _, _, _ :: _ :: _, _, h => by simp only [mC] at h; cases h
theorem sI : ∀ (it : It) (X : Cx) (W : WX) (tg p : Expr), Good T fa ca k X → Takes X W → mI T X.N it X.env.scope p = true → PI X tg p (tevI X.K fa ca (evI (callN T.fn k) it) W)
  | .e a, X, W, tg, p, hg, tk, h => by
    simp only [mI] at h
    exact s_iter (sE a X W p hg tk h).1
  | .rng a, X, W, tg, p, hg, tk, h => by
    match p, h with
    | .Call (.Name x _) [p] [] _, h =>
      simp only [mI, Bool.and_eq_true, decide_eq_true_eq] at h
      exact s_rng1 hg h.1 h.2.1 h.2.2.1 (sE a X W p hg tk h.2.2.2).1
  | .rng2 a b, X, W, tg, p, hg, tk, h => by
    match p, h with
    | .Call (.Name x _) [p, q] [] _, h =>
      simp only [mI, Bool.and_eq_true, decide_eq_true_eq] at h
      exact s_rng2 hg h.1 h.2.1 h.2.2.1 h.2.2.2.1 (sE a X W p hg tk h.2.2.2.2.1).1 (sE b X W q hg tk h.2.2.2.2.2).1
end
end
end NW
end
section
/- Statements, defs. -/
namespace NW
open PySem PySem.Spec L2

/-! ### the text against the core syntax -/
def swN (sc : Scope) (ts : List Expr) : List Str := ts.filterMap fun
  | .Name id pos => if sc.names.lookup id == some .local && pos.line == (ts.head?.map (·.pos.line)).getD 0 then some id else none
  | _ => none
def anyStar (vs : List Expr) : Bool := vs.any fun | .Starred .. => true | _ => false
/-- a tuple's names are stored one by one, from the right -/
def swYes (sc : Scope) (ts vs : List Expr) : Bool := (ts.length == 2 || ts.length == 3) && (vs.length == ts.length && (!anyStar vs && ((swN sc ts).length == ts.length && ((swN sc ts).eraseDups.length == (swN sc ts).length &&
  (!vs.all (foldedForSure 8) && !vs.all (constantsAlone 8))))))
def swNo (sc : Scope) (ts : List Expr) : Expr → Bool
  | .Tuple vs _ _ => !(ts.length == 2 || ts.length == 3) || (vs.length != ts.length || (anyStar vs || ((swN sc ts).length != ts.length || ((swN sc ts).eraseDups.length != (swN sc ts).length || vs.all (foldedForSure 8)))))
  | _ => true
theorem swYes_ok {env : PySem.Env} (hk : env.blockKind = .function) {ts vs : List Expr} {k k2 : Nat} {p p2 : Pos} (h : swYes env.scope ts vs = true) : swappedStores [.Tuple ts k p] (.Tuple vs k2 p2) env = pure (some (swN env.scope ts)) := by
  unfold swYes at h
  simp only [Bool.and_eq_true, Bool.not_eq_true', beq_iff_eq] at h
  obtain ⟨h1, h2, h3, h4, h5, h6, h7⟩ := h
  show (if (!(ts.length == 2 || ts.length == 3) || vs.length != ts.length || env.blockKind != .function) = true then pure none else if anyStar vs = true then pure none else
    if ((swN env.scope ts).length != ts.length || (swN env.scope ts).eraseDups.length != (swN env.scope ts).length) = true then pure none else if vs.all (foldedForSure 8) = true then pure none else
    if vs.all (constantsAlone 8) = true then (do unsupported "assign.tuple-of-constant-expressions:order-of-the-stores"; pure (some (swN env.scope ts))) else pure (some (swN env.scope ts)) : Sem (Option (List Str))) = _
  rw [h1, h2, hk, h3, h5, h4, h6, h7]
  simp only [bne_self_eq_false, Bool.not_true, Bool.or_self, Bool.false_eq_true, if_false]
theorem swNo_ok {env : PySem.Env} (hk : env.blockKind = .function) {ts : List Expr} {q : Expr} {k : Nat} {p : Pos} (h : swNo env.scope ts q = true) : swappedStores [.Tuple ts k p] q env = pure none := by
  cases q with
  | Tuple vs k2 p2 =>
    unfold swNo at h
    simp only [Bool.or_eq_true] at h
    show (if (!(ts.length == 2 || ts.length == 3) || vs.length != ts.length || env.blockKind != .function) = true then pure none else if anyStar vs = true then pure none else
      if ((swN env.scope ts).length != ts.length || (swN env.scope ts).eraseDups.length != (swN env.scope ts).length) = true then pure none else if vs.all (foldedForSure 8) = true then pure none else
      if vs.all (constantsAlone 8) = true then (do unsupported "assign.tuple-of-constant-expressions:order-of-the-stores"; pure (some (swN env.scope ts))) else pure (some (swN env.scope ts)) : Sem (Option (List Str))) = _
    by_cases c1 : (!(ts.length == 2 || ts.length == 3) || vs.length != ts.length || env.blockKind != .function) = true
    · rw [if_pos c1]
    rw [if_neg c1]
    by_cases c2 : anyStar vs = true
    · rw [if_pos c2]
    rw [if_neg c2]
    by_cases c3 : ((swN env.scope ts).length != ts.length || (swN env.scope ts).eraseDups.length != (swN env.scope ts).length) = true
    · rw [if_pos c3]
    rw [if_neg c3]
    simp only [Bool.or_eq_true, not_or] at c1 c3
    rcases h with h | h | h | h | h | h
    · exact absurd h c1.1.1
    · exact absurd h c1.1.2
    · exact absurd h c2
    · exact absurd h c3.1
    · exact absurd h c3.2
    · rw [if_pos h]
  | _ => rfl

def swList (sc : Scope) (x : Str) (px : Pos) (q : Expr) : Option Bool :=
  match q with
  | .ListComp _ _ s p => some (decide (sc.names.lookup x = some .local) && (px.line == p.line && !(s.names.any fun (n, k) => n == x && (k == .local || k == .cell))))
  | .SetComp .. => none
  | .DictComp .. => none
  | _ => some false
theorem swList_ok {env : PySem.Env} (hk : env.blockKind = .function) {x : Str} {px : Pos} {q : Expr} {l : Nat} {b : Bool} (h : swList env.scope x px q = some b) : swapsWith q (some (.Name x px)) l env = pure b := by
  cases q <;> simp only [swList] at h <;> first | (cases h; done) | (cases h; rfl) | skip
  rename_i elt gs s p
  cases h
  unfold swapsWith
  simp only [hk]
  have e1 : (env.kindOf x == some NameKind.local) = decide (env.scope.names.lookup x = some .local) := by
    unfold Env.kindOf
    generalize env.scope.names.lookup x = o
    cases o with
    | none => rfl
    | some o => cases o <;> rfl
  rw [e1]
  have e2 : (ScopeKind.function == ScopeKind.function) = true := rfl
  rw [e2, Bool.true_and, Bool.and_assoc]
  rfl
def noComp : Expr → Bool
  | .ListComp .. => false
  | .SetComp .. => false
  | .DictComp .. => false
  | _ => true
def baseOk : Expr → Bool
  | .Name _ _ => true
  | .Subscript _ _ _ => true
  | _ => false
theorem baseOk_ok {p : Expr} {at_ : Str} {env : PySem.Env} {m : Sem Value} (h : baseOk p = true) : attributeBase p at_ env m = m := by
  cases p <;> simp only [baseOk] at h <;> first | rfl | (cases h; done)
theorem noComp_ok {env : PySem.Env} {q : Expr} {t : Option Expr} {l : Nat} (h : noComp q = true) : swapsWith q t l env = pure false := by
  cases q <;> first | rfl | (simp only [noComp] at h; cases h; done)
theorem swTup_ok {env : PySem.Env} {q : Expr} {ts : List Expr} {k : Nat} {p : Pos} {l : Nat} : swapsWithSole [.Tuple ts k p] q l env = pure false := by
  cases q <;> rfl
mutual
def mS (T : Tb) (N : List Str) (sc : Scope) : S → Stmt → Bool
  | .set i e, .Assign [.Name x px] q _ => decide (N[i]? = some x) && (loc sc x && ((swList sc x px q).isSome && mE T N e sc q))
  | .setT is e, .Assign [.Tuple ts _ _] q _ => mNames N (loc sc) is ts && (swNo sc ts q && mE T N e sc q)
  | .par is es, .Assign [.Tuple ts _ _] (.Tuple vs _ _) _ => mNames N (loc sc) is ts && (decide is.Nodup && (swYes sc ts vs && mEs T N es sc vs))
  | .setI o i e, .Assign [.Subscript p q _] r _ => noComp r && (plain q && (mE T N o sc p && (mE T N i sc q && mE T N e sc r)))
  | .ret e, .Return (some q) _ => mE T N e sc q
  | .exp e, .Expr q _ => noComp q && mE T N e sc q
  | .app o e, .Expr (.Call (.Attribute p at_ ap) [q] [] cp) _ => decide (at_ = ("append" : Str)) && (ap.endLine == cp.line && (baseOk p && (plain q && (mE T N o sc p && mE T N e sc q))))
  | .ife c a b, .If q xs ys _ => mE T N c sc q && (mSs T N sc a xs && mSs T N sc b ys)
  | .whl c b, .While q xs [] _ => mE T N c sc q && mSs T N sc b xs
  | .for_ tg it b, .For t i xs [] _ => mTg N (loc sc) tg t && (plain i && (mI T N it sc i && mSs T N sc b xs))
  | .brk, .Break _ => true
  | _, _ => false
def mSs (T : Tb) (N : List Str) (sc : Scope) : Ss → List Stmt → Bool
  | .nil, [] => true
  | .cons s ss, t :: ts => mS T N sc s t && mSs T N sc ss ts
  | _, _ => false
end
section
variable {T : Tb} {fa ca : Nat → Addr} {k : Nat} {X : Cx} {W : WX} {C : Calls}
variable {K : PySem.W.Frag} {A A1 A2 A' : Pl} {H H1 H2 H' : Hp} {σ : L2.St} {G : Env}
/-! ### what is wanted behind a statement -/
def SPost (K : PySem.W.Frag) (fa ca : Nat → Addr) (r : SR) (A : Pl) (H : Hp) (D : Ends) (W : WX) : Prop :=
  match r with
  | .fl .nx G S => ∀ σ' H' A', Ext A H A' H' → SRel K fa A' H' S → GRel K fa A' H' σ' G → D.nx σ' H'
  | .fl (.ret d) _ S => ∀ v H' A', Ext A H A' H' → SRel K fa A' H' S → Rep K fa A' H' v d → D.rt v H'
  | .fl .brk G S => ∀ σ' H' A', Ext A H A' H' → SRel K fa A' H' S → GRel K fa A' H' σ' G → D.bk σ' H'
  | .exc x G S => ∀ c d σ' H' A', Ext A H A' H' → SRel K fa A' H' S → GRel K fa A' H' σ' G → RepX K fa ca A' H' c d x → W c d σ' H'
  | .bad => False
theorem SPost.mono {r : SR} {D : Ends} (h : SPost K fa ca r A H D W) (e : Ext A H A1 H1) : SPost K fa ca r A1 H1 D W := by
  cases r with
  | fl f G S =>
    cases f with
    | nx => exact fun σ' H' A' e' s g => h σ' H' A' (e.trans e') s g
    | ret d => exact fun v H' A' e' s r => h v H' A' (e.trans e') s r
    | brk => exact fun σ' H' A' e' s g => h σ' H' A' (e.trans e') s g
  | exc x G S => exact fun c d σ' H' A' e' s g r => h c d σ' H' A' (e.trans e') s g r
  | bad => exact h
def tsv (K : PySem.W.Frag) (fa ca : Nat → Addr) (m : MS) (W : WX) : TS := fun D σ H => ∃ A G S, GRel K fa A H σ G ∧ SRel K fa A H S ∧ SPost K fa ca (m G S) A H D W
/-- an expression first -/
theorem subS {α β : Type} {rep1 : Pl → Hp → β → α → Prop} {m1 : Env → Store → R α} {f : α → Store → SR} {D : Ends} {S : Store}
    (g : GRel K fa A H σ G) (s : SRel K fa A H S) (p : SPost K fa ca ((m1 G S).toS G f) A H D W) :
    tevG K fa ca rep1 m1 W σ H (fun v H1 => ∃ A1 a S1, Ext A H A1 H1 ∧ SRel K fa A1 H1 S1 ∧ rep1 A1 H1 v a ∧ SPost K fa ca (f a S1) A1 H1 D W) := by
  refine ⟨A, G, S, g, s, ?_⟩
  cases hm : m1 G S with
  | ok a S1 => rw [hm] at p; exact fun v H' A' e s r => ⟨A', a, S1, e, s, r, SPost.mono p e⟩
  | exc x S1 => rw [hm] at p; exact fun c d H' A' e s r => p c d σ H' A' e s (g.mono e) r
  | bad => rw [hm] at p; exact p
theorem PS_of {X : Cx} {st : Stmt} {t t' : TS} (h : PS X st t) (i : ∀ D σ H, t' D σ H → t D σ H) : PS X st t' := ⟨fun pins s σ H D I q => h.run pins s σ H D I (i D σ H q)⟩
theorem PSs_of {X : Cx} {st : List Stmt} {t t' : TS} (h : PSs X st t) (i : ∀ D σ H, t' D σ H → t D σ H) : PSs X st t' := ⟨fun pins s σ H D I q => h.run pins s σ H D I (i D σ H q)⟩

structure GoodS (T : Tb) (fa ca : Nat → Addr) (k : Nat) (X : Cx) : Prop extends Good T fa ca k X where
  fn : ∀ x, X.fn x = true
  own : PassesOwn (model X.prog X.w) X.A X.env X.xe
  blk : X.env.blockKind = .function
theorem locS {sc : Scope} {x : Str} (h : loc sc x = true) : Loc sc x := by
  unfold loc at h
  simp only [Bool.or_eq_true, decide_eq_true_eq] at h
  exact h
theorem comp_ok {elt : E} {own : List (Str × Nat)} {tg : Tg} {it : NW.It} {c : Oe} {q : Expr} {gs : List Comprehension} {scope : Scope} {p : Pos} (hg : Good T fa ca k X) (tk : Takes X W) (h : mE T X.N (.comp elt own tg it c) X.env.scope (.ListComp q gs scope p) = true) :
    ∃ t i ifs, gs = [⟨t, i, ifs, 0⟩] ∧ CompOk T fa ca X W (callN T.fn k) elt own tg it c q t i ifs scope := by
  match gs, h with
  | [⟨t, i, ifs, 0⟩], h =>
    simp only [mE, Bool.and_eq_true] at h
    obtain ⟨h1, h2, h3, h4, h5, h6⟩ := h
    exact ⟨t, i, ifs, rfl, ⟨blkOk_by h1, h2, sI it X W t i hg tk h3, h4, fun s H Cc cl fp => s_tg (X := X.blk s H scope (compEnvC scope cl Cc X.env) fp) hg.calm hg.nd (fun x hx => loc_of hx) h2,
        fun s H Cc cl fp => sC c (X.blk s H scope (compEnvC scope cl Cc X.env) fp) ifs (hg.blk ..) h5, fun s H Cc cl fp => (sE elt (X.blk s H scope (compEnvC scope cl Cc X.env) fp) W0 q (hg.blk ..) takes0 h6).1⟩⟩
theorem t_set {i : Nat} {e : E} {x : Str} {px : Pos} {q : Expr} {p : Pos} (hg : GoodS T fa ca k X) (tk : Takes X W) (h : mS T X.N X.env.scope (.set i e) (.Assign [.Name x px] q p) = true) : PS X (.Assign [.Name x px] q p) (tsv X.K fa ca (evS (callN T.fn k) (.set i e)) W) := by
  simp only [mS, Bool.and_eq_true, decide_eq_true_eq] at h
  obtain ⟨h1, h2, h3, h4⟩ := h
  have fin : ∀ {D : Ends} {σ : L2.St} {H : Hp}, tsv X.K fa ca (evS (callN T.fn k) (.set i e)) W D σ H → tev X.K fa ca (evE (callN T.fn k) e) W σ H fun x H1 => gName i x σ H1 D.nx := fun {D σ H} ⟨A, G, S, g, s, p⟩ => by
    simp only [evS] at p
    refine (subS (rep1 := Rep X.K fa) g s p).mono fun v H1 ⟨A1, a, S1, e1, s1, r1, p1⟩ => ?_
    exact p1 _ H1 A1 Ext.refl s1 ((g.mono e1).set r1)
  cases hb : swList X.env.scope x px q with
  | none => rw [hb] at h3; cases h3
  | some b =>
    have hsw := fun l => swList_ok (l := l) hg.blk hb
    cases b with
    | false => exact PS_of (ps_set hg.nd h1 (locS h2) (sE e X W q hg.toGood tk h4).1 (hsw _) (.inl (hg.fn x))) fun D σ H q => fin q
    | true =>
      cases q <;> simp only [swList] at hb <;> first | (cases hb; done) | skip
      rename_i elt gs scope pos
      simp only [Option.some.injEq, Bool.and_eq_true, decide_eq_true_eq] at hb
      cases e <;> (try simp only [mE] at h4) <;> first | (cases h4; done) | skip
      rename_i elt' own tg it c
      obtain ⟨t, it', ifs, rfl, o⟩ := comp_ok hg.toGood tk (p := pos) (show mE T X.N (.comp elt' own tg it c) X.env.scope (.ListComp elt gs scope pos) = true from h4)
      exact PS_of (ps_setLc hg.calm hg.nd h1 hb.1 (hsw _) o.hit o.ok o.pg o.pt o.pe (plain_fold o.hpl _)) fun D σ H q => o.reads hg.toGood (fin q)
theorem t_setT {is : List Nat} {e : E} {ts : List Expr} {q : Expr} {j : Nat} {p2 p : Pos} (hg : GoodS T fa ca k X) (tk : Takes X W) (h : mS T X.N X.env.scope (.setT is e) (.Assign [.Tuple ts j p2] q p) = true) : PS X (.Assign [.Tuple ts j p2] q p) (tsv X.K fa ca (evS (callN T.fn k) (.setT is e)) W) := by
  simp only [mS, Bool.and_eq_true] at h
  obtain ⟨h1, h2, h3⟩ := h
  have hgt : PG X (.Tuple ts j p2) (gT X.K (.tup is)) := s_tg (ok := loc X.env.scope) hg.calm hg.nd (fun x hx => ⟨locS hx, .inl (hg.fn x)⟩) (by simpa only [mTg] using h1)
  refine PS_of (ps_asg (sE e X W q hg.toGood tk h3).1 hgt swTup_ok (swNo_ok hg.blk h2) rfl) fun D σ H ⟨A, G, S, g, s, p⟩ => ?_
  simp only [evS] at p
  refine (subS (rep1 := Rep X.K fa) g s p).mono fun v H1 ⟨A1, a, S1, e1, s1, r1, p1⟩ => ?_
  split at p1
  · rename_i G2 hG
    exact gT_run r1 hG (g.mono e1) fun σ2 g2 _ => p1 σ2 H1 A1 Ext.refl s1 g2
  · exact p1.elim
theorem t_setI {o i e : E} {pe pi q : Expr} {p2 p : Pos} (hg : GoodS T fa ca k X) (tk : Takes X W) (h : mS T X.N X.env.scope (.setI o i e) (.Assign [.Subscript pe pi p2] q p) = true) : PS X (.Assign [.Subscript pe pi p2] q p) (tsv X.K fa ca (evS (callN T.fn k) (.setI o i e)) W) := by
  simp only [mS, Bool.and_eq_true] at h
  obtain ⟨h0, hp, h1, h2, h3⟩ := h
  have hpg := pg_sub (pos := p2) (sE o X W pe hg.toGood tk h1).1 (sE i X W pi hg.toGood tk h2).1 set_list (ha := fun v => by cases pi <;> first | rfl | (cases hp; done))
  refine PS_of (ps_asg (sE e X W q hg.toGood tk h3).1 hpg (by cases q <;> rfl) (by cases q <;> rfl) rfl) fun D σ H ⟨A, G, S, g, s, p⟩ => ?_
  simp only [evS] at p
  refine (subS (rep1 := Rep X.K fa) g s p).mono fun v H1 ⟨A1, a, S1, e1, s1, r1, p1⟩ => ?_
  refine (subS (rep1 := Rep X.K fa) (g.mono e1) s1 p1).mono fun x H2 ⟨A2, b, S2, e2, s2, r2, p2⟩ => ?_
  refine (subS (rep1 := Rep X.K fa) ((g.mono e1).mono e2) s2 p2).mono fun y H3 ⟨A3, c, S3, e3, s3, r3, p3⟩ => ?_
  split at p3
  · rename_i S4 hS
    unfold setItemD at hS
    split at hS
    · rename_i n kx q3
      split at hS
      · rename_i ds hn
        obtain ⟨jx, hj, rfl⟩ := Option.map_eq_some_iff.mp hS
        have r2' := Rep.mono e3 _ _ r2
        obtain ⟨l, xs, rfl, hl, rl⟩ := listOf_rep s3 r2' (by simp only [listOf, hn]; rfl)
        cases r3
        cases r2' with
        | loc m =>
          have hj' : ixN xs.length kx = some jx := by rw [rl.length]; exact hj
          have r1' := Rep.mono e3 _ _ (Rep.mono e2 _ _ r1)
          have ew : Ext A3 H3 A3 (upd H3 l (.lst (xs.set jx v))) := Ext.wrote (List.mem_of_getElem? m)
          exact ⟨l, xs, kx, jx, rfl, rfl, hl, hj', p3 σ _ A3 ew (s3.wrote m (rl.set r1' jx)) (((g.mono e1).mono e2).mono e3 |>.mono ew)⟩
      · cases hS
    · cases hS
  · exact p3.elim
theorem t_app {o e : E} {pe q : Expr} {at_ : Str} {ap cp p : Pos} (hg : GoodS T fa ca k X) (tk : Takes X W) (h : mS T X.N X.env.scope (.app o e) (.Expr (.Call (.Attribute pe at_ ap) [q] [] cp) p) = true) : PS X (.Expr (.Call (.Attribute pe at_ ap) [q] [] cp) p) (tsv X.K fa ca (evS (callN T.fn k) (.app o e)) W) := by
  simp only [mS, Bool.and_eq_true, decide_eq_true_eq] at h
  obtain ⟨rfl, h1, h2, h3, h4, h5⟩ := h
  have pe1 := pe_bm PySem.F.plainAttrs_list PySem.F.slot_list_append PySem.F.type_list_append mt_append (sE o X W pe hg.toGood tk h4).1 (pa_cons (sE e X W q hg.toGood tk h5).1 pa_nil (plain_star h3 _ _)) (apos := ap) (cpos := cp) (baseOk_ok h2)
    (by rw [plain_star h3]; rfl) h1 (plain_star h3 _ _) rfl
  refine PS_of (ps_expr pe1 (noComp_ok rfl)) fun D σ H ⟨A, G, S, g, s, p⟩ => ?_
  simp only [evS] at p
  refine (subS (rep1 := Rep X.K fa) g s p).mono fun v H1 ⟨A1, a, S1, e1, s1, r1, p1⟩ => ?_
  split at p1
  case isFalse => exact p1.elim
  rename_i hls
  have ty : tyV X.K "list" v H1 := by
    obtain ⟨ds, hd⟩ := Option.isSome_iff_exists.mp hls
    obtain ⟨l, xs, rfl, hl, rl⟩ := listOf_rep s1 r1 hd
    exact Or.inl ⟨rfl, _, Or.inl (Or.inl hl)⟩
  refine ⟨ty, (subS (rep1 := Rep X.K fa) (g.mono e1) s1 p1).mono fun x H2 ⟨A2, b, S2, e2, s2, r2, p2⟩ => ?_⟩
  split at p2
  · rename_i S4 hS
    unfold appD at hS
    split at hS
    · rename_i n
      split at hS
      · rename_i ds hn
        split at hS
        · rename_i hz
          cases hS
          have r1' := Rep.mono e2 _ _ r1
          obtain ⟨l, xs, rfl, hl, rl⟩ := listOf_rep s2 r1' (by simp only [listOf, hn]; rfl)
          cases r1' with
          | loc m =>
            have ew : Ext A2 H2 A2 (upd H2 l (.lst (xs ++ [x]))) := Ext.wrote (List.mem_of_getElem? m)
            exact ⟨l, xs, x, rfl, rfl, hl, by rw [rl.length, ← line_eq]; exact hz, p2 σ _ A2 ew (s2.wrote m (rl.append (.cons r2 .nil))) ((g.mono e1).mono e2 |>.mono ew)⟩
        · cases hS
      · cases hS
    · cases hS
  · exact p2.elim


theorem fm_all {α β : Type} {f : α → Option β} : ∀ {l : List α}, (l.filterMap f).length = l.length → l.map f = (l.filterMap f).map some
  | [], _ => rfl
  | a :: l, h => by
    have hle := List.length_filterMap_le f l
    cases hf : f a with
    | none => rw [List.filterMap_cons_none hf, List.length_cons] at h; omega
    | some b =>
      rw [List.filterMap_cons_some hf, List.length_cons, List.length_cons] at h
      rw [List.filterMap_cons_some hf, List.map_cons, List.map_cons, hf, fm_all (by omega)]
theorem swN_all {sc : Scope} {ts : List Expr} (h : (swN sc ts).length = ts.length) : ∃ f : Expr → Option Str, ts.map f = (swN sc ts).map some ∧ ∀ x px y, f (.Name x px) = some y → y = x ∧ sc.names.lookup x = some .local := by
  refine ⟨_, fm_all h, fun x px y e => ?_⟩
  dsimp only at e
  split at e
  · rename_i c
    cases e
    simp only [Bool.and_eq_true, beq_iff_eq] at c
    exact ⟨rfl, c.1⟩
  · cases e

theorem mNames_len {N : List Str} {ok : Str → Bool} : ∀ {is : List Nat} {ts : List Expr}, mNames N ok is ts = true → is.length = ts.length
  | [], [], _ => rfl
  | _ :: is, t :: ts, h => by
    cases t <;> simp only [mNames] at h <;> first | (cases h; done) | skip
    simp only [Bool.and_eq_true] at h
    simp only [List.length_cons, mNames_len h.2.2]
  | [], _ :: _, h => by simp only [mNames] at h; cases h
  | _ :: _, [], h => by simp only [mNames] at h; cases h
theorem mNames_cons {N : List Str} {ok : Str → Bool} {i : Nat} {is : List Nat} {t : Expr} {ts : List Expr} (h : mNames N ok (i :: is) (t :: ts) = true) : ∃ x px, t = .Name x px ∧ N[i]? = some x ∧ mNames N ok is ts = true := by
  cases t <;> simp only [mNames] at h <;> first | (cases h; done) | skip
  simp only [Bool.and_eq_true, decide_eq_true_eq] at h
  exact ⟨_, _, rfl, h.1, h.2.2⟩
theorem len2 {α : Type} {l : List α} (h : l.length = 2) : ∃ a b, l = [a, b] := by
  match l, h with
  | [a, b], _ => exact ⟨a, b, rfl⟩
theorem len3 {α : Type} {l : List α} (h : l.length = 3) : ∃ a b c, l = [a, b, c] := by
  match l, h with
  | [a, b, c], _ => exact ⟨a, b, c, rfl⟩
theorem t_par {is : List Nat} {es : Es} {ts vs : List Expr} {j j2 : Nat} {p2 p3 p : Pos} (hg : GoodS T fa ca k X) (tk : Takes X W) (h : mS T X.N X.env.scope (.par is es) (.Assign [.Tuple ts j p2] (.Tuple vs j2 p3) p) = true) : PS X (.Assign [.Tuple ts j p2] (.Tuple vs j2 p3) p) (tsv X.K fa ca (evS (callN T.fn k) (.par is es)) W) := by
  simp only [mS, Bool.and_eq_true, decide_eq_true_eq] at h
  obtain ⟨h1, h2, h3, h4⟩ := h
  have hsw := swYes_ok (k := j) (k2 := j2) (p := p2) (p2 := p3) hg.blk h3
  have pa := sEs es X W vs hg.toGood tk h4
  have hlen : (swN X.env.scope ts).length = ts.length ∧ vs.length = ts.length ∧ (ts.length = 2 ∨ ts.length = 3) := by
    unfold swYes at h3
    simp only [Bool.and_eq_true, Bool.or_eq_true, beq_iff_eq] at h3
    exact ⟨h3.2.2.2.1, h3.2.1, h3.1⟩
  obtain ⟨hl, hv, hn⟩ := hlen
  obtain ⟨f, hf, hx⟩ := swN_all hl
  have hi := mNames_len h1
  rcases hn with hn | hn
  · obtain ⟨t1, t2, rfl⟩ := len2 hn
    obtain ⟨i, j, rfl⟩ := len2 (hi.trans hn)
    obtain ⟨a, b, rfl⟩ := len2 (hv.trans hn)
    obtain ⟨x, px, rfl, a1, h1⟩ := mNames_cons h1
    obtain ⟨y, py, rfl, a3, _⟩ := mNames_cons h1
    obtain ⟨u, v, e⟩ := len2 hl
    rw [e] at hf hsw
    simp only [List.map_cons, List.map_nil, List.cons.injEq, and_true] at hf
    obtain ⟨rfl, lx⟩ := hx _ _ _ hf.1
    obtain ⟨rfl, ly⟩ := hx _ _ _ hf.2
    have hij : i ≠ j := by simpa using h2
    refine PS_of (ps_par hg.calm hg.nd a1 a3 hij lx ly pa hsw) fun D σ H ⟨A, G, S, g, s, p⟩ => ?_
    simp only [evS] at p
    refine (subS (rep1 := RepL X.K fa) g s p).mono fun xs H1 ⟨A1, ds, S1, e1, s1, r1, p1⟩ => ?_
    split at p1
    case h_2 => exact p1.elim
    rename_i G2 hG
    match ds, xs, r1, hG with
    | [d1, d2], [v1, v2], .cons q1 (.cons q2 .nil), hG =>
      cases hG
      exact ⟨v1, v2, rfl, p1 _ H1 A1 Ext.refl s1 (((g.mono e1).set q1).set q2)⟩
  · obtain ⟨t1, t2, t3, rfl⟩ := len3 hn
    obtain ⟨i, j, l, rfl⟩ := len3 (hi.trans hn)
    obtain ⟨a, b, c, rfl⟩ := len3 (hv.trans hn)
    obtain ⟨x, px, rfl, a1, h1⟩ := mNames_cons h1
    obtain ⟨y, py, rfl, a3, h1⟩ := mNames_cons h1
    obtain ⟨z, pz, rfl, a5, _⟩ := mNames_cons h1
    obtain ⟨u, v, w, e⟩ := len3 hl
    rw [e] at hf hsw
    simp only [List.map_cons, List.map_nil, List.cons.injEq, and_true] at hf
    obtain ⟨rfl, lx⟩ := hx _ _ _ hf.1
    obtain ⟨rfl, ly⟩ := hx _ _ _ hf.2.1
    obtain ⟨rfl, lz⟩ := hx _ _ _ hf.2.2
    have hij : i ≠ j ∧ i ≠ l ∧ j ≠ l := by
      simp only [List.nodup_cons, List.mem_cons, List.not_mem_nil, or_false, not_or, not_false_eq_true, List.nodup_nil, and_true] at h2
      exact ⟨h2.1.1, h2.1.2, h2.2⟩
    refine PS_of (ps_par3 hg.calm hg.nd a1 a3 a5 hij.1 hij.2.1 hij.2.2 lx ly lz pa hsw) fun D σ H ⟨A, G, S, g, s, p⟩ => ?_
    simp only [evS] at p
    refine (subS (rep1 := RepL X.K fa) g s p).mono fun xs H1 ⟨A1, ds, S1, e1, s1, r1, p1⟩ => ?_
    split at p1
    case h_2 => exact p1.elim
    rename_i G2 hG
    match ds, xs, r1, hG with
    | [d1, d2, d3], [v1, v2, v3], .cons q1 (.cons q2 (.cons q3 .nil)), hG =>
      cases hG
      exact ⟨v1, v2, v3, rfl, p1 _ H1 A1 Ext.refl s1 ((((g.mono e1).set q1).set q2).set q3)⟩
theorem Car.trans (c : Car A H A1 H1) (c2 : Car A1 H1 A2 H2) : Car A H A2 H2 := ⟨fun n a m => c2.pl n a (c.pl n a m), fun a o n1 n2 h => let ⟨h1, m1, m2⟩ := c.keep a o n1 n2 h; c2.keep a o m1 m2 h1⟩
theorem Car.refl : Car A H A H := ⟨fun _ _ m => m, fun _ _ n1 n2 h => ⟨h, n1, n2⟩⟩
theorem t_whl {c : E} {b : Ss} {q : Expr} {xs : List Stmt} {p : Pos} (hg : GoodS T fa ca k X) (hc : PT X q (tevT X.K fa ca (evE (callN T.fn k) c) W)) (hb : PSs X xs (tsv X.K fa ca (evSs (callN T.fn k) b) W)) : PS X (.While q xs [] p) (tsv X.K fa ca (evS (callN T.fn k) (.whl c b)) W) := by
  refine PS_of (ps_while hg.own hc hb) fun D σ H ⟨A, G, S, g, s, pp⟩ => ?_
  simp only [evS] at pp
  refine ⟨fun m σ H => ∃ A G S, GRel X.K fa A H σ G ∧ SRel X.K fa A H S ∧ SPost X.K fa ca (whlGo (evE (callN T.fn k) c) (evSs (callN T.fn k) b) m G S) A H D W, ⟨_, A, G, S, g, s, pp⟩, ?_⟩
  rintro m σ H ⟨A, G, S, g, s, p1⟩
  cases m with
  | zero => exact p1.elim
  | succ n =>
    have e : whlGo (evE (callN T.fn k) c) (evSs (callN T.fn k) b) (n + 1) G S = (R.toB (evE (callN T.fn k) c G S)).toS G fun t S1 => if t = true then (match evSs (callN T.fn k) b G S1 with
      | .fl .nx G2 S2 => whlGo (evE (callN T.fn k) c) (evSs (callN T.fn k) b) n G2 S2
      | .fl .brk G2 S2 => .fl .nx G2 S2
      | r => r) else .fl .nx G S1 := by
      simp only [whlGo]
      cases evE (callN T.fn k) c G S with
      | ok d S1 => cases d with
        | bl t => cases t <;> rfl
        | _ => rfl
      | exc x S1 => rfl
      | bad => rfl
    rw [e] at p1
    refine (subS (rep1 := RepB) (m1 := fun G S => R.toB (evE (callN T.fn k) c G S)) g s p1).mono fun t H1 ⟨A1, t', S1, e1, s1, r1, p2⟩ => ?_
    subst r1
    cases t with
    | false =>
      rw [if_neg Bool.false_ne_true] at p2 ⊢
      exact p2 σ H1 A1 Ext.refl s1 (g.mono e1)
    | true =>
      rw [if_pos rfl] at p2 ⊢
      refine ⟨fun σ' H' => ∃ A G S, GRel X.K fa A H' σ' G ∧ SRel X.K fa A H' S ∧ SPost X.K fa ca (whlGo (evE (callN T.fn k) c) (evSs (callN T.fn k) b) n G S) A H' D W, fun σ' H' h => ⟨n, Nat.lt_succ_self n, h⟩, A1, G, S1, g.mono e1, s1, ?_⟩
      cases hr : evSs (callN T.fn k) b G S1 with
      | bad => rw [hr] at p2; exact p2
      | exc x G2 S2 => rw [hr] at p2; exact p2
      | fl f G2 S2 =>
        rw [hr] at p2
        cases f with
        | nx => exact fun σ' H' A' e' s' g' => ⟨A', G2, S2, g', s', SPost.mono p2 e'⟩
        | brk => exact p2
        | ret d => exact p2
theorem t_for {tg : Tg} {it : NW.It} {b : Ss} {t i : Expr} {xs : List Stmt} {p : Pos} (hg : GoodS T fa ca k X) (hi : PI X t i (tevI X.K fa ca (evI (callN T.fn k) it) W)) (ht : PG X t (gT X.K tg)) (hb : PSs X xs (tsv X.K fa ca (evSs (callN T.fn k) b) W)) (hs : ∀ x, foldedSetIterable i X.env x = pure x) :
    PS X (.For t i xs [] p) (tsv X.K fa ca (evS (callN T.fn k) (.for_ tg it b)) W) := by
  refine PS_of (ps_for hg.own hg.calm hi ht hb hs) fun D σ H ⟨A, G, S, g, s, pp⟩ => ?_
  simp only [evS] at pp
  refine (subS (rep1 := Serves X.K fa) g s pp).mono fun J H1 ⟨A1, src, S1, e1, s1, sv, p1⟩ => ?_
  refine ⟨fun i m σ H => i ≤ src.items.length ∧ m = src.items.length - i ∧ ∃ A G S, Car A1 H1 A H ∧ GRel X.K fa A H σ G ∧ SRel X.K fa A H S ∧ SPost X.K fa ca (forGo tg (evSs (callN T.fn k) b) src (src.items.drop i) G S) A H D W,
    ⟨_, Nat.zero_le _, rfl, A1, G, S1, Car.refl, g.mono e1, s1, p1⟩, ?_⟩
  rintro i m σ H ⟨hi, rfl, A, G, S, cr, g, s, p2⟩
  by_cases hlt : i < src.items.length
  · rw [List.drop_eq_getElem_cons hlt] at p2
    simp only [forGo] at p2
    split at p2
    case isFalse => exact p2.elim
    rename_i hst
    obtain ⟨sv1, _⟩ := sv A H S cr s hst
    obtain ⟨go, yl⟩ := sv1 i _ (List.getElem?_eq_getElem hlt)
    refine .inr ⟨go, fun σ' H' => ∃ A G S, Car A1 H1 A H' ∧ GRel X.K fa A H' σ' G ∧ SRel X.K fa A H' S ∧ SPost X.K fa ca (forGo tg (evSs (callN T.fn k) b) src (src.items.drop (i + 1)) G S) A H' D W, fun σ' H' h => ⟨_, by omega, hlt, rfl, h⟩, fun x H' y => ?_⟩
    obtain ⟨e, rx⟩ := yl x H' y
    subst e
    split at p2
    · exact p2.elim
    rename_i G2 hG
    refine gT_run rx hG g fun σ2 g2 hw => ⟨A, G2, S, g2, s, ?_⟩
    cases hr : evSs (callN T.fn k) b G2 S with
    | bad => rw [hr] at p2; exact p2
    | exc x G3 S3 => rw [hr] at p2; exact p2
    | fl f G3 S3 =>
      rw [hr] at p2
      cases f with
      | nx => exact fun σ' H' A' e' s' g' => ⟨A', G3, S3, cr.trans e'.car, g', s', SPost.mono p2 e'⟩
      | brk => exact p2
      | ret d => exact p2
  · have e : i = src.items.length := by omega
    subst e
    rw [List.drop_eq_nil_of_le (Nat.le_refl _)] at p2
    simp only [forGo] at p2
    split at p2
    · rename_i hst
      obtain ⟨_, st⟩ := sv A H S cr s hst
      exact .inl ⟨st _ (Nat.le_refl _), p2 σ H A Ext.refl s g⟩
    · exact p2.elim
end
end NW
end
section
/- All statements; a def keeps its promise; the program's top. -/
namespace NW
open PySem PySem.Spec L2
section
variable {T : Tb} {fa ca : Nat → Addr} {k : Nat}
mutual
theorem sS : ∀ (s : S) (X : Cx) (W : WX) (st : Stmt), GoodS T fa ca k X → Takes X W → mS T X.N X.env.scope s st = true → PS X st (tsv X.K fa ca (evS (callN T.fn k) s) W)
  | .set i e, X, W, st, hg, tk, h => by
    unfold mS at h
    split at h <;> first | (cases h; done) | (simp only [reduceCtorEq] at *; done) | skip
    rename_i heq
    cases heq
    exact t_set hg tk (by simp only [mS]; exact h)
  | .setT is e, X, W, st, hg, tk, h => by
    unfold mS at h
    split at h <;> first | (cases h; done) | (simp only [reduceCtorEq] at *; done) | skip
    rename_i heq
    cases heq
    exact t_setT hg tk (by simp only [mS]; exact h)
  | .par is es, X, W, st, hg, tk, h => by
    unfold mS at h
    split at h <;> first | (cases h; done) | (simp only [reduceCtorEq] at *; done) | skip
    rename_i heq
    cases heq
    exact t_par hg tk (by simp only [mS]; exact h)
  | .setI o i e, X, W, st, hg, tk, h => by
    unfold mS at h
    split at h <;> first | (cases h; done) | (simp only [reduceCtorEq] at *; done) | skip
    rename_i heq
    cases heq
    exact t_setI hg tk (by simp only [mS]; exact h)
  | .app o e, X, W, st, hg, tk, h => by
    unfold mS at h
    split at h <;> first | (cases h; done) | (simp only [reduceCtorEq] at *; done) | skip
    rename_i heq
    cases heq
    exact t_app hg tk (by simp only [mS]; exact h)
  | .ret e, X, W, st, hg, tk, h => by
    unfold mS at h
    split at h <;> first | (cases h; done) | (simp only [reduceCtorEq] at *; done) | skip
    rename_i heq
    cases heq
    refine PS_of (ps_ret (sE e X W _ hg.toGood tk h).1) fun D σ H ⟨A, G, S, g, s, p⟩ => ?_
    simp only [evS] at p
    exact (subS (rep1 := Rep X.K fa) g s p).mono fun v H1 ⟨A1, a, S1, e1, s1, r1, p1⟩ => p1 v H1 A1 Ext.refl s1 r1
  | .exp e, X, W, st, hg, tk, h => by
    unfold mS at h
    split at h <;> first | (cases h; done) | (simp only [reduceCtorEq] at *; done) | skip
    rename_i heq
    cases heq
    simp only [Bool.and_eq_true] at h
    refine PS_of (ps_expr (sE e X W _ hg.toGood tk h.2).1 (noComp_ok h.1)) fun D σ H ⟨A, G, S, g, s, p⟩ => ?_
    simp only [evS] at p
    exact (subS (rep1 := Rep X.K fa) g s p).mono fun v H1 ⟨A1, a, S1, e1, s1, r1, p1⟩ => p1 σ H1 A1 Ext.refl s1 (g.mono e1)
  | .ife c a b, X, W, st, hg, tk, h => by
    unfold mS at h
    split at h <;> first | (cases h; done) | (simp only [reduceCtorEq] at *; done) | skip
    rename_i heq
    cases heq
    simp only [Bool.and_eq_true] at h
    refine PS_of (ps_if (sE c X W _ hg.toGood tk h.1).2 (sSs a X W _ hg tk h.2.1) (sSs b X W _ hg tk h.2.2)) fun D σ H ⟨A, G, S, g, s, p⟩ => ?_
    have e : evS (callN T.fn k) (.ife c a b) G S = (R.toB (evE (callN T.fn k) c G S)).toS G fun t S1 => if t = true then evSs (callN T.fn k) a G S1 else evSs (callN T.fn k) b G S1 := by
      simp only [evS]
      cases evE (callN T.fn k) c G S with
      | ok d S1 => cases d with
        | bl t => cases t <;> rfl
        | _ => rfl
      | exc x S1 => rfl
      | bad => rfl
    rw [e] at p
    refine (subS (rep1 := RepB) (m1 := fun G S => R.toB (evE (callN T.fn k) c G S)) g s p).mono fun t H1 ⟨A1, t', S1, e1, s1, r1, p2⟩ => ?_
    subst r1
    cases t with
    | false => rw [if_neg Bool.false_ne_true] at p2 ⊢; exact ⟨A1, G, S1, g.mono e1, s1, p2⟩
    | true => rw [if_pos rfl] at p2 ⊢; exact ⟨A1, G, S1, g.mono e1, s1, p2⟩
  | .whl c b, X, W, st, hg, tk, h => by
    unfold mS at h
    split at h <;> first | (cases h; done) | (simp only [reduceCtorEq] at *; done) | skip
    rename_i heq
    cases heq
    simp only [Bool.and_eq_true] at h
    exact t_whl hg (sE c X W _ hg.toGood tk h.1).2 (sSs b X W _ hg tk h.2)
  | .for_ tg it b, X, W, st, hg, tk, h => by
    unfold mS at h
    split at h <;> first | (cases h; done) | (simp only [reduceCtorEq] at *; done) | skip
    rename_i heq
    cases heq
    simp only [Bool.and_eq_true] at h
    obtain ⟨h1, h2, h3, h4⟩ := h
    exact t_for hg (sI it X W _ _ hg.toGood tk h3) (s_tg (ok := loc X.env.scope) hg.calm hg.nd (fun x hx => ⟨locS hx, .inl (hg.fn x)⟩) h1) (sSs b X W _ hg tk h4) (plain_fold h2 _)
  | .brk, X, W, st, hg, tk, h => by
    unfold mS at h
    split at h <;> first | (cases h; done) | (simp only [reduceCtorEq] at *; done) | skip
    refine PS_of ps_break fun D σ H ⟨A, G, S, g, s, p⟩ => ?_
    simp only [evS] at p
    exact p σ H A Ext.refl s g
theorem sSs : ∀ (s : Ss) (X : Cx) (W : WX) (st : List Stmt), GoodS T fa ca k X → Takes X W → mSs T X.N X.env.scope s st = true → PSs X st (tsv X.K fa ca (evSs (callN T.fn k) s) W)
  | .nil, X, W, st, hg, tk, h => by
    unfold mSs at h
    split at h <;> first | (cases h; done) | (simp only [reduceCtorEq] at *; done) | skip
    refine PSs_of pss_nil fun D σ H ⟨A, G, S, g, s, p⟩ => ?_
    simp only [evSs] at p
    exact p σ H A Ext.refl s g
  | .cons s ss, X, W, st, hg, tk, h => by
    unfold mSs at h
    split at h <;> first | (cases h; done) | (simp only [reduceCtorEq] at *; done) | skip
    rename_i heq
    cases heq
    simp only [Bool.and_eq_true] at h
    refine PSs_of (pss_cons (sS s X W _ hg tk h.1) (sSs ss X W _ hg tk h.2)) fun D σ H ⟨A, G, S, g, st, p⟩ => ?_
    simp only [evSs] at p
    refine ⟨A, G, S, g, st, ?_⟩
    cases hr : evS (callN T.fn k) s G S with
    | bad => rw [hr] at p; exact p
    | exc x G2 S2 => rw [hr] at p; exact p
    | fl f G2 S2 =>
      rw [hr] at p
      cases f with
      | nx => exact fun σ' H' A' e' s' g' => ⟨A', G2, S2, g', s', SPost.mono p e'⟩
      | brk => exact p
      | ret d => exact p
end
end
end NW
end
section
/- A def keeps its promise; the program's top. -/
namespace NW
open PySem PySem.Spec L2

/-! ### a def's own places are let go -/
section
variable {K : PySem.W.Frag} {fa ca : Nat → Addr} {A A1 A2 A' : Pl} {H H1 H2 H' : Hp} {σ : L2.St} {G : Env}
mutual
theorem Rep.low : ∀ (d : D) (v : V), Rep K fa A H v d → d.under A.pl.length = true
  | .non, _, _ => by simp only [D.under]
  | .bl _, _, _ => by simp only [D.under]
  | .int _, _, _ => by simp only [D.under]
  | .str _, _, _ => by simp only [D.under]
  | .fn _, _, _ => by simp only [D.under]
  | .scr _, _, _ => by simp only [D.under]
  | .tup ds, _, h => by
    simp only [D.under]
    cases h with
    | tup _ _ _ r => exact RepL.low ds _ r
    | ktup _ r => exact RepL.low ds _ r
  | .lst ds, _, h => by
    simp only [D.under]
    cases h with
    | lst _ _ _ r => exact RepL.low ds _ r
  | .loc n, _, h => by
    simp only [D.under, decide_eq_true_eq]
    cases h with
    | loc m => exact (List.getElem?_eq_some_iff.mp m).1
theorem RepL.low : ∀ (ds : List D) (vs : List V), RepL K fa A H vs ds → D.underL A.pl.length ds = true
  | [], _, _ => by simp only [D.underL]
  | d :: ds, _, h => by
    cases h with
    | cons h1 h2 => simp only [D.underL, Rep.low d _ h1, RepL.low ds _ h2, Bool.and_self]
end
theorem Ob.same_eq {a b : Ob} (h : Ob.same a b = true) : a = b := by
  cases a; cases b
  simp only [Ob.same] at h
  rw [D.sameL_eq _ _ h]
theorem letGo_ok {S0 S S' : Store} {d d' : D} {v : V} (s0 : SRel K fa A H S0) (e : Ext A H A' H') (s : SRel K fa A' H' S) (r : Rep K fa A' H' v d) (h : letGo S0.length S0 S d = some (d', S')) :
    ∃ A'', Ext A H A'' H' ∧ SRel K fa A'' H' S' ∧ Rep K fa A'' H' v d' := by
  obtain ⟨B, hB⟩ := e.pre
  have hpl : A'.pl.take S0.length = A.pl := by rw [hB, ← s0.len, List.take_left]
  unfold letGo at h
  split at h
  case isFalse => cases h
  rename_i hc
  simp only [Bool.and_eq_true, beq_iff_eq, List.all_eq_true, List.mem_range] at hc
  obtain ⟨hl, ho⟩ := hc
  have ext : Ext A H (A'.take S0.length) H' := ⟨⟨[], by show A'.pl.take _ = _; rw [hpl, List.append_nil]⟩, e.fb, fun b h1 h2 => by
    have h1 : b ∈ A'.pl.take S0.length := h1
    rw [hpl] at h1; exact absurd h1 h2, e.keep⟩
  have srel : SRel K fa (A'.take S0.length) H' (S.take S0.length) := by
    refine ⟨?_, ?_, fun m o hm => ?_, fun b hb => ⟨(s.fbt b hb).1, fun z => (s.fbt b hb).2 (List.mem_of_mem_take z)⟩⟩
    · show (A'.pl.take _).length = _
      rw [List.length_take, List.length_take, s.len]
    · exact s.nd.sublist (List.take_sublist ..)
    · have hmn : m < S0.length := by
        have := (List.getElem?_eq_some_iff.mp hm).1
        rw [hl] at this; exact this
      rw [List.getElem?_take_of_lt hmn] at hm
      obtain ⟨a, ha, ra⟩ := s.obj m o hm
      refine ⟨a, by show (A'.pl.take _)[m]? = _; rw [List.getElem?_take_of_lt hmn]; exact ha, ?_⟩
      have hu : Ob.under S0.length o = true := by
        have q := ho m hmn
        rw [List.getElem?_eq_getElem hmn, hm] at q
        simp only [Bool.or_eq_true] at q
        rcases q with q | q
        · have q' := Ob.same_eq q
          obtain ⟨a0, _, r0⟩ := s0.obj m S0[m] (List.getElem?_eq_getElem hmn)
          rw [q'] at r0
          cases r0 with
          | lst _ rl =>
            simp only [Ob.under]
            rw [← s0.len]
            exact RepL.low _ _ rl
        · exact q
      cases ra with
      | lst q rl => exact .lst q (RepL.under _ _ rl (by simpa only [Ob.under] using hu))
  refine ⟨A'.take S0.length, ext, ?_⟩
  have plain : ∀ {d : D}, Rep K fa A' H' v d → (if D.under S0.length d = true then some (d, S.take S0.length) else none) = some (d', S') → SRel K fa (A'.take S0.length) H' S' ∧ Rep K fa (A'.take S0.length) H' v d' := fun {d} r h => by
    split at h
    · rename_i hu
      cases h
      exact ⟨srel, Rep.under _ _ r hu⟩
    · cases h
  cases d with
  | loc m =>
    dsimp only at h
    split at h
    · rename_i hm
      cases h
      exact ⟨srel, Rep.under _ _ r (by simp only [D.under, decide_eq_true_eq]; exact hm)⟩
    · rename_i hm
      split at h
      · rename_i ds hS
        split at h
        · rename_i hu
          cases h
          refine ⟨srel, ?_⟩
          cases r with
          | loc ma =>
            obtain ⟨a', ha', ra⟩ := s.obj m _ hS
            rw [ma] at ha'; cases ha'
            cases ra with
            | lst q rl =>
              refine .lst q (fun z => ?_) (fun z => (s.fbt _ z).2 (List.mem_of_getElem? ma)) (RepL.under _ _ rl hu)
              have z : _ ∈ A'.pl.take S0.length := z
              rw [hpl] at z
              obtain ⟨j, hj⟩ := List.getElem?_of_mem z
              have hj' : j < S0.length := by rw [← s0.len]; exact (List.getElem?_eq_some_iff.mp hj).1
              obtain ⟨h1, e1⟩ := List.getElem?_eq_some_iff.mp (e.at hj)
              obtain ⟨h2, e2⟩ := List.getElem?_eq_some_iff.mp ma
              have := (List.getElem_inj s.nd).mp (e1.trans e2.symm)
              omega
        · cases h
      · cases h
  | non => exact plain r h
  | bl _ => exact plain r h
  | int _ => exact plain r h
  | str _ => exact plain r h
  | tup _ => exact plain r h
  | lst _ => exact plain r h
  | fn _ => exact plain r h
  | scr _ => exact plain r h
end

/-! ### a def -/
def parsOk (a : Arguments) : Bool := a.posonlyargs.isEmpty && (a.vararg.isNone && (a.kwonlyargs.isEmpty && (a.kwarg.isNone && (a.kw_defaults.isEmpty && a.defaults.isEmpty))))
def scC (N P : List Str) (sc : Scope) : Bool :=
  decide (sc.kind = .function) && (!sc.isCoroutine && (!sc.isGenerator && (decide N.Nodup && (decide (N.take P.length = P) && (P.all (fun x => decide (sc.names.lookup x = some .local) || decide (sc.names.lookup x = some .cell)) && sc.names.all (fun y => !decide (y.2 = .free)))))))
theorem fnScope_by {N P : List Str} {sc : Scope} (h : scC N P sc = true) : FnScope N P sc := by
  unfold scC at h
  simp only [Bool.and_eq_true, Bool.not_eq_true', decide_eq_true_eq, List.all_eq_true, Bool.or_eq_true, decide_eq_false_iff_not] at h
  obtain ⟨h1, h2, h3, h4, h5, h6, h7⟩ := h
  exact ⟨h1, h2, h3, h4, h5, h6, h7⟩
def pars (a : Arguments) : List Str := a.args.map (·.arg)
/-- the body without its text -/
def noDoc : List Stmt → List Stmt
  | .Expr (.Constant (.str _) _ _) _ :: r => r
  | r => r
def fdC (T : Tb) (fd : FD) (a : Arguments) (body : List Stmt) (sc : Scope) : Bool :=
  decide (fd.N.take fd.np = pars a) && (decide ((pars a).length = fd.np) && (scC fd.N (pars a) sc && mSs T fd.N sc fd.body (noDoc body)))
section
variable {T : Tb} {fa ca : Nat → Addr} {k : Nat} {P : Program} {w : World} {K : PySem.W.Frag} {mg : Str → Option Value} {base : Heap}
theorem startE_rel {A : Pl} {H : Hp} {N : List Str} {vs : List V} {ds : List D} (r : RepL K fa A H vs ds) (hl : vs.length ≤ N.length) : GRel K fa A H (L2.start N vs) (startE N.length ds) := by
  have el := r.length
  refine ⟨by simp only [L2.start, startE, List.length_append, List.length_map, List.length_replicate]; omega, fun i d h => ?_⟩
  unfold startE at h
  unfold L2.start
  by_cases hi : i < ds.length
  · rw [List.getElem?_append_left (by rw [List.length_map]; exact hi), List.getElem?_map] at h
    obtain ⟨d', h1, h2⟩ := Option.map_eq_some_iff.mp h
    cases h2
    obtain ⟨v, h3, h4⟩ := RepL.get r h1
    refine ⟨v, ?_, h4⟩
    rw [List.getElem?_append_left (by rw [List.length_map]; omega), List.getElem?_map, h3]
    rfl
  · rw [List.getElem?_append_right (by rw [List.length_map]; omega), List.getElem?_replicate] at h
    split at h
    · cases h
    · cases h
theorem noDoc_ok {X : Cx} {body : List Stmt} {t : TS} (h : PSs X (noDoc body) t) : PSs X body t := by
  unfold noDoc at h
  split at h
  · exact PSs_of (pss_cons ps_doc h) fun D σ H q => q
  · exact h
/-- a def keeps its promise one level up -/
theorem fd_ok {f : Nat} {fd : FD} {fdat : FuncData} {x q : Str} {a : Arguments} {body : List Stmt} {sc : Scope} (tp : Top T fa ca k P w K mg base) (hf : T.fn f = some fd) (hc : fdC T fd a body sc = true) (F : FunD K x q a body sc [] [] (fa f) fdat) :
    FnOk P w K mg base (L2.CX P w) (k + 1) (fa f) fdat (fd.N.take fd.np) (spF T K fa ca (k + 1) f) := by
  unfold fdC at hc
  simp only [Bool.and_eq_true, decide_eq_true_eq] at hc
  obtain ⟨h1, h2, h3, h4⟩ := hc
  have S := fnScope_by h3
  rw [h1]
  refine F.ok S (fun vs H Q E h => ?_) (fun cdv A outer s H vs Q E hr h => ?_)
  · obtain ⟨⟨fd', e, hl⟩, _⟩ := h
    rw [hf] at e; cases e
    rw [hl, h1]
  · obtain ⟨⟨fd', e, hl⟩, A0, S0, ds, s0, r0, p0⟩ := h
    rw [hf] at e; cases e
    have tk : Takes (cxOf (L2.CX P w) P w K mg base fd.N q sc (fa f) cdv A outer s H E) (fun cls d _ H' => E cls d H') := takes_of rfl rfl rfl rfl
    have hg : GoodS T fa ca k (cxOf (L2.CX P w) P w K mg base fd.N q sc (fa f) cdv A outer s H E) :=
      ⟨⟨rfl, S.nd, hr, tp⟩, fun _ => rfl, passes_of rfl, (show (if sc.kind.isAnnotationScope = true then ScopeKind.function else sc.kind) = .function by rw [S.kind]; rfl)⟩
    refine ⟨_, noDoc_ok (sSs fd.body _ _ _ hg tk h4), A0, startE fd.N.length ds, S0, startE_rel r0 ?_, s0, ?_⟩
    · rw [hl, List.length_take]; omega
    have hds : ds.length = fd.np := by rw [← r0.length, hl, h1, h2]
    simp only [callN, hf, hds, if_true] at p0
    cases hr : evSs (callN T.fn k) fd.body (startE fd.N.length ds) S0 with
    | bad => rw [hr] at p0; exact p0
    | exc x G2 S2 => rw [hr] at p0; exact fun c d σ' H' A' e' s' g' r' => p0 c d H' A' e' s' r'
    | fl fl G2 S2 =>
      rw [hr] at p0
      cases fl with
      | brk => exact p0.elim
      | nx =>
        intro σ' H' A' e' s' g'
        simp only [endCall] at p0
        split at p0
        · split at p0
          · rename_i d S' hgo
            obtain ⟨A'', e2, s2, r2⟩ := letGo_ok (v := V.non) s0 e' s' .non hgo
            exact p0 _ H' A'' e2 s2 r2
          · exact p0.elim
        · exact p0 _ H' A' e' s' .non
      | ret d =>
        intro v H' A' e' s' r'
        simp only [endCall] at p0
        split at p0
        · split at p0
          · rename_i d S' hgo
            obtain ⟨A'', e2, s2, r2⟩ := letGo_ok s0 e' s' r' hgo
            exact p0 _ H' A'' e2 s2 r2
          · exact p0.elim
        · exact p0 _ H' A' e' s' r'
end
end NW
end
section
/- The program's top, from the facts that the head tells; the end of a law. -/
namespace NW
open PySem PySem.Spec L2

/-! ### constants of the top -/
mutual
def valB (K : PySem.W.Frag) : D → Value → Bool
  | .non, .none => true
  | .bl b, .bool c => b == c
  | .int i, .int j _ => decide (i = j)
  | .str x, .str y _ => decide (x = y)
  | .tup ds, .ref a => (match K.lookup a with
    | some ⟨.type c, _, .seq its _, _⟩ => decide (c = "tuple") && (decide (its.size ≤ sizeLine) && valLB K ds its.toList)
    | _ => false)
  | _, _ => false
def valLB (K : PySem.W.Frag) : List D → List Value → Bool
  | [], [] => true
  | d :: ds, v :: vs => valB K d v && valLB K ds vs
  | _, _ => false
end
mutual
theorem valB_ok {K : PySem.W.Frag} {fa : Nat → Addr} : ∀ {d : D} {u : Value}, valB K d u = true → ∃ v, RelV v u ∧ ∀ A H, Rep K fa A H v d
  | .non, u, h => by cases u <;> simp only [valB] at h <;> first | (cases h; done) | exact ⟨.non, rfl, fun _ _ => .non⟩
  | .bl b, u, h => by
    cases u <;> simp only [valB] at h <;> first | (cases h; done) | skip
    cases eq_of_beq h
    exact ⟨.bl b, rfl, fun _ _ => .bl b⟩
  | .int b, u, h => by
    cases u <;> simp only [valB] at h <;> first | (cases h; done) | skip
    cases of_decide_eq_true h
    exact ⟨.int b, ⟨_, rfl⟩, fun _ _ => .int b⟩
  | .str b, u, h => by
    cases u <;> simp only [valB] at h <;> first | (cases h; done) | skip
    cases of_decide_eq_true h
    exact ⟨.str b, ⟨_, rfl⟩, fun _ _ => .str b⟩
  | .tup ds, u, h => by
    cases u <;> simp only [valB] at h <;> first | (cases h; done) | skip
    rename_i a
    cases q : K.lookup a with
    | none => rw [q] at h; cases h
    | some o =>
      obtain ⟨oc, od, dt, osl⟩ := o
      rw [q] at h
      cases oc with
      | type c =>
        cases dt with
        | seq its n =>
          simp only [Bool.and_eq_true, decide_eq_true_eq] at h
          obtain ⟨h1, h2, h3⟩ := h
          obtain ⟨vs, r1, r2⟩ := valLB_ok (fa := fa) h3
          exact ⟨.ref a, rfl, fun A H => .ktup ⟨_, its, n, q, by rw [h1], rfl, h2, r1⟩ (r2 A H)⟩
        | _ => cases h
      | _ => cases dt <;> cases h
  | .lst _, u, h => by cases u <;> simp only [valB] at h <;> cases h
  | .loc _, u, h => by cases u <;> simp only [valB] at h <;> cases h
  | .fn _, u, h => by cases u <;> simp only [valB] at h <;> cases h
  | .scr _, u, h => by cases u <;> simp only [valB] at h <;> cases h
theorem valLB_ok {K : PySem.W.Frag} {fa : Nat → Addr} : ∀ {ds : List D} {us : List Value}, valLB K ds us = true → ∃ vs, Vals vs us ∧ ∀ A H, RepL K fa A H vs ds
  | [], us, h => by
    cases us with
    | nil => exact ⟨[], .nil, fun _ _ => .nil⟩
    | cons _ _ => simp only [valLB] at h; cases h
  | d :: ds, us, h => by
    cases us with
    | nil => simp only [valLB] at h; cases h
    | cons u us =>
      simp only [valLB, Bool.and_eq_true] at h
      obtain ⟨v, a1, a2⟩ := valB_ok (fa := fa) h.1
      obtain ⟨vs, b1, b2⟩ := valLB_ok (fa := fa) h.2
      exact ⟨v :: vs, .cons a1 b1, fun A H => .cons (a2 A H) (b2 A H)⟩
end
def cstB (K : PySem.W.Frag) (p : Str × D) : Bool := match PySem.W.nsIn K mainGlobals p.1 with
  | some (some u) => valB K p.2 u
  | _ => false

/-! ### a program -/
structure Pg where
  fds : List (Nat × FD)
  ats : List Nat
  cs : List (Str × D)
def Pg.T (p : Pg) : Tb := ⟨fun f => p.fds.lookup f, fun x => p.cs.lookup x⟩
def defD : Stmt → He.DefD
  | .FunctionDef name args body _ _ _ scope _ _ _ => ⟨(name, none), name, name, args, body, scope, [], []⟩
  | _ => ⟨("", none), "", "", ⟨[], [], none, [], [], none, []⟩, [], ⟨.function, [], false, false, []⟩, [], []⟩
def Pg.defs (p : Pg) (P : Program) : List He.DefD := p.ats.map fun i => defD (P.main.body.getD i (.Pass ⟨0, 0, 0, 0⟩))
def Pg.facts (p : Pg) : List He.Fa := p.fds.map (fun q => He.Fa.glo q.2.name) ++ bltNames.map He.Fa.free
def okDefs (T : Tb) : List (Nat × FD) → List He.DefD → Bool
  | [], [] => true
  | (_, fd) :: fds, d :: ds => decide (fd.name = d.name) && (decide (d.dfl = [] ∧ d.kwd = []) && (decide (d.at_ = (d.name, none)) && (parsOk d.params && (fdC T fd d.params d.body d.scope && okDefs T fds ds))))
  | _, _ => false
def obsN (p : Pg) (P : Program) (K : PySem.W.Frag) : He.AlD := let o := He.obsD p.facts (p.defs P) K; (o.1 && p.cs.all (cstB K), o.2)
def SaysN (p : Pg) (P : Program) (K : PySem.W.Frag) : Prop := obsN p P K = He.valD (p.defs P)
def obsNG (n : Nat) (p : Pg) (P : Program) (g : Addr → Option Obj) : He.AlD := obsN p P (He.frG g (He.asD g n))
def hookN (n : Nat) (p : Pg) (P : Program) : PySem.W.Hook where
  α := He.AlD
  obs := fun s => obsNG n p P s.heap.get?
  val := fun _ => He.valD (p.defs P)
  says := fun _ h => ∃ K : PySem.W.Frag, K.In h ∧ SaysN p P K
  of := fun _ _ e => ⟨_, He.frG_in, e⟩
  keeps := fun _ _ _ ⟨K, hK, c⟩ k => ⟨K, PySem.W.Frag.In.keeps hK k, c⟩
theorem obsNG_eq {n : Nat} {p : Pg} {P : Program} {g : Addr → Option Obj} {s : Shared} (h : ∀ a, g a = s.heap.get? a) : obsNG n p P g = (hookN n p P).obs s := by
  have e : g = s.heap.get? := funext h
  rw [e] <;> rfl
theorem SaysN.d {p : Pg} {P : Program} {K : PySem.W.Frag} (c : SaysN p P K) : He.SaysD p.facts (p.defs P) K := by
  have c' : obsN p P K = He.valD (p.defs P) := c
  have h1 : ((He.obsD p.facts (p.defs P) K).1 && p.cs.all (cstB K)) = true := congrArg (fun z : He.AlD => z.1) c'
  have h2 : (He.obsD p.facts (p.defs P) K).2 = (He.valD (p.defs P)).2 := (congrArg (fun z : He.AlD => z.2) c' :)
  rw [Bool.and_eq_true] at h1
  exact Prod.ext h1.1 h2
theorem SaysN.c {p : Pg} {P : Program} {K : PySem.W.Frag} (c : SaysN p P K) {q : Str × D} (hq : q ∈ p.cs) : cstB K q = true := by
  have h1 : ((He.obsD p.facts (p.defs P) K).1 && p.cs.all (cstB K)) = true := congrArg (fun z : He.AlD => z.1) (show obsN p P K = He.valD (p.defs P) from c)
  rw [Bool.and_eq_true] at h1
  exact List.all_eq_true.mp h1.2 q hq
/-! ### binding -/

theorem zip_look {ps : List Str} {us : List Value} (hn : ps.Nodup) (hl : us.length = ps.length) : ∀ {i : Nat} (hi : i < ps.length), (ps.zip us).lookup ps[i] = some (us[i]'(by omega)) := by
  induction ps generalizing us with
  | nil => intro i hi; simp at hi
  | cons p ps ih =>
    cases us with
    | nil => simp at hl
    | cons u us =>
      intro i hi
      rw [List.nodup_cons] at hn
      cases i with
      | zero => simp [List.zip_cons_cons, List.lookup_cons]
      | succ i =>
        have hi' : i < ps.length := by simpa using hi
        have hne : (ps[i] == p) = false := by
          rw [beq_eq_false_iff_ne]
          rintro e
          exact hn.1 (e ▸ List.getElem_mem hi')
        simp only [List.getElem_cons_succ, List.zip_cons_cons, List.lookup_cons, hne]
        exact ih hn.2 (by simpa using hl) hi'
theorem zip_all {ps : List Str} {us : List Value} (hn : ps.Nodup) (hl : us.length = ps.length) : (ps.filterMap fun n => ((ps.zip us).lookup n).map (n, ·)) = ps.zip us := by
  have e : ps.map (fun n => ((ps.zip us).lookup n).map (n, ·)) = (ps.zip us).map some := by
    apply List.ext_getElem
    · simp [hl]
    · intro i h1 h2
      have hi : i < ps.length := by simpa using h1
      simp only [List.getElem_map, zip_look hn hl hi, Option.map_some, List.getElem_zip]
  have : ∀ {α β : Type} (f : α → Option β) (l : List α) (r : List β), l.map f = r.map some → l.filterMap f = r := by
    intro α β f l
    induction l with
    | nil => intro r h; cases r with
      | nil => rfl
      | cons _ _ => cases h
    | cons a l ih => intro r h; cases r with
      | nil => cases h
      | cons b r =>
        simp only [List.map_cons, List.cons.injEq] at h
        rw [List.filterMap_cons_some h.1, ih r h.2]
  exact this _ _ _ e
theorem binds_any {x q : Str} {body : List Stmt} {sc : Scope} {kV doc pm : Value} {an : Option Addr} {cdv ct : Value} {a : Arguments} (ha : parsOk a = true) (hn : (pars a).Nodup) (us : List Value) (hl : us.length = (pars a).length) :
    bindArgs (PySem.W.fnOf x q a body sc .none kV doc pm an cdv ct) ⟨us, []⟩ = pure ((pars a).zip us) := by
  obtain ⟨a1, a2, a3, a4, a5, a6, a7⟩ := a
  unfold parsOk at ha
  simp only [Bool.and_eq_true, List.isEmpty_iff, Option.isNone_iff_eq_none] at ha
  obtain ⟨rfl, rfl, rfl, rfl, rfl, rfl⟩ := ha
  have hm : ((pars ⟨[], a2, none, [], [], none, []⟩).filter fun n => (((pars ⟨[], a2, none, [], [], none, []⟩).zip us).lookup n).isNone) = [] := by
    rw [List.filter_eq_nil_iff]
    intro n hm
    obtain ⟨i, hi, rfl⟩ := List.getElem_of_mem hm
    rw [zip_look hn hl hi]
    simp
  have hz := zip_all hn hl
  unfold pars at hl hm hz ⊢
  unfold bindArgs
  simp only [PySem.W.fnOf, List.map_nil, List.nil_append, List.append_nil, pure_bind, List.forIn_nil]
  generalize List.map (fun x => x.arg) a2 = ps at *
  rw [show seqItems? Value.none = pure none from rfl, pure_bind]
  simp only [Option.getD_none, List.drop_nil, List.length_nil, Nat.sub_zero, hl, gt_iff_lt, Nat.lt_irrefl, decide_false, Bool.false_and, Bool.false_eq_true, if_false, List.take_length, hm, List.isEmpty_nil, Bool.not_true, List.zip_nil_right, List.forIn_nil, pure_bind, hz]

/-! ### the top -/
def Pg.fa (p : Pg) (K : PySem.W.Frag) (f : Nat) : Addr := match p.fds.lookup f with
  | some fd => He.ga K fd.name
  | none => 0
theorem mem_look {β : Type} {a : Nat} {b : β} : ∀ {l : List (Nat × β)}, l.lookup a = some b → (a, b) ∈ l
  | [], h => by simp at h
  | (c, d) :: l, h => by
    rw [List.lookup_cons] at h
    split at h
    · rename_i e
      cases h
      rw [eq_of_beq e]
      exact List.mem_cons_self ..
    · exact List.mem_cons_of_mem _ (mem_look h)
theorem okDefs_get {T : Tb} : ∀ {fds : List (Nat × FD)} {ds : List He.DefD}, okDefs T fds ds = true → ∀ {f : Nat} {fd : FD}, (f, fd) ∈ fds →
    ∃ d, d ∈ ds ∧ fd.name = d.name ∧ (d.dfl = [] ∧ d.kwd = []) ∧ d.at_ = (d.name, none) ∧ parsOk d.params = true ∧ fdC T fd d.params d.body d.scope = true
  | [], _, _, _, _, h => by simp at h
  | (n, fd) :: fds, [], h, _, _, _ => by simp only [okDefs] at h; cases h
  | (n, fd) :: fds, d :: ds, h, f, fd', hf => by
    simp only [okDefs, Bool.and_eq_true, decide_eq_true_eq] at h
    obtain ⟨h1, h2, h3, h4, h5, h6⟩ := h
    rcases List.mem_cons.mp hf with e | hf
    · cases e
      exact ⟨d, List.mem_cons_self .., h1, h2, h3, h4, h5⟩
    · obtain ⟨d', m, r⟩ := okDefs_get h6 hf
      exact ⟨d', List.mem_cons_of_mem _ m, r⟩
section
variable {p : Pg} {Pr P : Program} {w : World} {K : PySem.W.Frag} {mg : Str → Option Value} {base : Heap} {ca : Nat → Addr}
theorem def_at (ok : okDefs p.T p.fds (p.defs Pr) = true) (c : SaysN p Pr K) {f : Nat} {fd : FD} (hf : p.fds.lookup f = some fd) :
    ∃ (d : He.DefD) (fdat : FuncData), FunD K d.name d.qual d.params d.body d.scope [] [] (p.fa K f) fdat ∧ fd.name = d.name ∧ parsOk d.params = true ∧ fdC p.T fd d.params d.body d.scope = true ∧ fd.N.take fd.np = pars d.params ∧ (pars d.params).length = fd.np ∧ (pars d.params).Nodup := by
  obtain ⟨d, m, h1, h2, h3, h4, h5⟩ := okDefs_get ok (mem_look hf)
  obtain ⟨fdat, F⟩ := c.d.defs m
  have ea : He.fAd K d.at_ = p.fa K f := by
    rw [h3]
    unfold Pg.fa
    rw [hf]
    show He.ga K d.name = He.ga K fd.name
    rw [h1]
  have e1 : d.dvs K = [] := by unfold He.DefD.dvs; rw [h2.1]; rfl
  have e2 : d.kws K = [] := by unfold He.DefD.kws; rw [h2.2]; rfl
  rw [ea, e1, e2] at F
  have h5' := h5
  unfold fdC at h5
  simp only [Bool.and_eq_true, decide_eq_true_eq] at h5
  refine ⟨d, fdat, F, h1, h4, h5', h5.1, h5.2.1, ?_⟩
  have nd := (fnScope_by h5.2.2.1).nd
  rw [← h5.1]
  exact nd.sublist (List.take_sublist ..)
theorem top_all (ok : okDefs p.T p.fds (p.defs Pr) = true) (c : SaysN p Pr K) (KX : K.In base) (G : base.Ns mainGlobals mg) : ∀ k, Top p.T (p.fa K) ca k P w K mg base := by
  have blt : ∀ x, x ∈ bltNames → mg x = none := fun x hx => He.free_ok KX G (c.d.facts (f := .free x) (List.mem_append_right _ (List.mem_map.mpr ⟨x, hx, rfl⟩)))
  have cst : ∀ x d, p.T.cst x = some d → ∃ v u, mg x = some u ∧ RelV v u ∧ ∀ A H, Rep K (p.fa K) A H v d := fun x d h => by
    have hm : (x, d) ∈ p.cs := PySem.mem_of_lookup h
    have hc := c.c hm
    unfold cstB at hc
    split at hc
    · rename_i u hu
      obtain ⟨v, r1, r2⟩ := valB_ok (fa := p.fa K) hc
      exact ⟨v, u, PySem.W.mg_of KX G hu, r1, r2⟩
    · cases hc
  have tys : ∀ t : Ty, mg (Str.ofString t.nm) = none := fun t => blt _ (by cases t <;> decide +kernel)
  have glo : ∀ f fd, p.fds.lookup f = some fd → mg fd.name = some (.ref (p.fa K f)) := fun f fd hf => by
    have := He.glo_ok KX G (c.d.facts (f := .glo fd.name) (List.mem_append_left _ (List.mem_map.mpr ⟨(f, fd), mem_look hf, rfl⟩)))
    rw [this]
    unfold Pg.fa
    rw [hf]
  intro k
  induction k with
  | zero =>
    refine ⟨fun f fd hf => ?_, cst, blt, tys⟩
    obtain ⟨d, fdat, F, h1, h4, h5, h6, h7, h8⟩ := def_at ok c hf
    have no : ∀ vs H Q E, ¬ spF p.T K (p.fa K) ca 0 f vs H Q E := fun vs H Q E ⟨_, _, _, _, _, _, h⟩ => by simp only [callN] at h; exact h
    refine ⟨by rw [h6, h7], fdat, glo f fd hf, F.kp, ?_, ⟨fun vs H Q E h => absurd h (no vs H Q E), fun A outer s H args us vs Q E _ _ _ _ h => absurd h (no vs H Q E)⟩⟩
    rw [h6]
    exact F.bindsN fun _ _ _ _ _ _ us hl => binds_any h4 h8 us hl
  | succ k ih =>
    refine ⟨fun f fd hf => ?_, cst, blt, tys⟩
    obtain ⟨d, fdat, F, h1, h4, h5, h6, h7, h8⟩ := def_at ok c hf
    refine ⟨by rw [h6, h7], fdat, glo f fd hf, F.kp, ?_, fd_ok ih hf h5 F⟩
    rw [h6]
    exact F.bindsN fun _ _ _ _ _ _ us hl => binds_any h4 h8 us hl
end
/-- the end of a law -/
theorem law_end {l : PySem.W.OpenLaw} {n k m lf : Nat} {q : Program} {loose : List Str} {XP : (Str → Option Value) → Heap → Prop} {d : DefRec} {p : Pg} {fdl : FD} {x : Str}
    (hn : l.most = some n) (hn2 : n ≤ sizeLine) (hdf : d.params.defaults = []) (hr : Room (k + 1) callerA) (ok : okDefs p.T p.fds (p.defs l.prog) = true) (hl : p.fds.lookup lf = some fdl) (hname : d.name = fdl.name) (hpar : fdl.N.take fdl.np = [x])
    (run : ∀ ns : List Int, ns.length ≤ n → (∀ z ∈ ns, Builtin.Int.intBits z ≤ 1048576) → ∃ S, callN p.T.fn (k + 1) lf [.scr ns] [] = .ok (.bl true) S) :
    PySem.W.WalkO q loose XP (hookN m p l.prog).says l.row.toRowW d [] (fun f vs => PySem.call f vs) := by
  refine Att.attach_callB hn hdf fun w s₀ s₁ mg mb fa o pm cd doc a vs ns G Y ho hd hcd hmg hobj hints hlen hbits hg => ?_
  obtain ⟨K, KX, c⟩ := Y
  obtain ⟨dd, fdat, F, h1, h4, h5, h6, h7, h8⟩ := def_at ok c hl
  have ef : fa = p.fa K lf := by
    have t : Top p.T (p.fa K) (fun _ => 0) 0 l.prog w K mg s₁.heap := top_all ok c KX G.T.g 0
    obtain ⟨_, fdat, e, _⟩ := t.fns lf fdl hl
    rw [hname, e] at hmg
    cases hmg
    rfl
  subst ef
  have hF : ∀ base : Heap, K.In base → base.Ns mainGlobals mg → FnOk l.prog w K mg base (L2.CX l.prog w) (k + 1) (p.fa K lf) fdat [x] (spF p.T K (p.fa K) (fun _ => 0) (k + 1) lf) := fun base KB GB => by
    have Fk := fd_ok (P := l.prog) (w := w) (top_all (ca := fun _ => 0) ok c KB GB k) hl h5 F
    rw [hpar] at Fk
    exact Fk
  refine law_call (CX := L2.CX l.prog w) KX G.T.g G.T.b G.T.builtins G.T.nolimit hg hobj hints (Nat.le_trans hlen hn2) hr hF (fun s u => ?_) (fun H hO hS => ?_) (fun H e s' h => ?_)
  · have b := F.bindsA (ps := pars dd.params) (fun _ _ _ _ _ _ us hl => binds_any h4 h8 us hl) s [u] (by rw [← h6, hpar]; rfl)
    rw [← h6, hpar] at b
    exact b
  · obtain ⟨S, hS2⟩ := run ns hlen hbits
    refine ⟨⟨fdl, hl, by rw [hpar]; rfl⟩, ⟨[], []⟩, [], [.scr ns], ⟨rfl, .nil, fun _ _ h => by simp at h, fun _ h => by simp at h⟩, .cons ?_ .nil, ?_⟩
    · rcases hS with h | h
      · exact .scr h (by simp) (by simp)
      · exact .kscr h
    · rw [hS2]
      intro v H' A' e s r
      cases r
      rfl
  · obtain ⟨_, _, _, _, _, _, _, _, _, _, _, _, z⟩ := h
    exact z
end NW
end
section
/- Reckoning with the evaluator. -/
namespace NW
open PySem

/-! ### an answer that is as wanted -/
inductive EPX {α : Type} : R α → (α → Store → Prop) → (Xc → Store → Prop) → Prop where
  | ok {a : α} {S : Store} {Q : α → Store → Prop} {W : Xc → Store → Prop} : Q a S → EPX (.ok a S) Q W
  | exc {x : Xc} {S : Store} {Q : α → Store → Prop} {W : Xc → Store → Prop} : W x S → EPX (.exc x S) Q W
inductive SPX : SR → (Env → Store → Prop) → (D → Store → Prop) → (Env → Store → Prop) → (Xc → Env → Store → Prop) → Prop where
  | nx {G : Env} {S : Store} {N Bk : Env → Store → Prop} {Rt : D → Store → Prop} {W : Xc → Env → Store → Prop} : N G S → SPX (.fl .nx G S) N Rt Bk W
  | ret {d : D} {G : Env} {S : Store} {N Bk : Env → Store → Prop} {Rt : D → Store → Prop} {W : Xc → Env → Store → Prop} : Rt d S → SPX (.fl (.ret d) G S) N Rt Bk W
  | brk {G : Env} {S : Store} {N Bk : Env → Store → Prop} {Rt : D → Store → Prop} {W : Xc → Env → Store → Prop} : Bk G S → SPX (.fl .brk G S) N Rt Bk W
  | exc {x : Xc} {G : Env} {S : Store} {N Bk : Env → Store → Prop} {Rt : D → Store → Prop} {W : Xc → Env → Store → Prop} : W x G S → SPX (.exc x G S) N Rt Bk W
abbrev EP {α : Type} (r : R α) (Q : α → Store → Prop) : Prop := EPX r Q fun _ _ => False
abbrev SP (r : SR) (N : Env → Store → Prop) (Rt : D → Store → Prop) (Bk : Env → Store → Prop) : Prop := SPX r N Rt Bk fun _ _ _ => False
section
variable {α β : Type} {C : Calls} {G : Env} {S S1 : Store} {Q : D → Store → Prop} {N Bk : Env → Store → Prop} {Rt : D → Store → Prop} {W : Xc → Store → Prop} {V : Xc → Env → Store → Prop}
theorem EPX.monoX {r : R α} {Q Q' : α → Store → Prop} {W W' : Xc → Store → Prop} (h : EPX r Q W) (i : ∀ a S, Q a S → Q' a S) (j : ∀ x S, W x S → W' x S) : EPX r Q' W' := by
  cases h with
  | ok h => exact .ok (i _ _ h)
  | exc h => exact .exc (j _ _ h)
theorem EPX.mono {r : R α} {Q Q' : α → Store → Prop} {W : Xc → Store → Prop} (h : EPX r Q W) (i : ∀ a S, Q a S → Q' a S) : EPX r Q' W := h.monoX i fun _ _ z => z
theorem SPX.monoX {r : SR} {N' Bk' : Env → Store → Prop} {Rt' : D → Store → Prop} {V V' : Xc → Env → Store → Prop} (h : SPX r N Rt Bk V) (i : ∀ G S, N G S → N' G S) (j : ∀ d S, Rt d S → Rt' d S) (l : ∀ G S, Bk G S → Bk' G S) (m : ∀ x G S, V x G S → V' x G S) : SPX r N' Rt' Bk' V' := by
  cases h with
  | nx h => exact .nx (i _ _ h)
  | ret h => exact .ret (j _ _ h)
  | brk h => exact .brk (l _ _ h)
  | exc h => exact .exc (m _ _ _ h)
theorem SPX.mono {r : SR} {N' Bk' : Env → Store → Prop} {Rt' : D → Store → Prop} (h : SPX r N Rt Bk V) (i : ∀ G S, N G S → N' G S) (j : ∀ d S, Rt d S → Rt' d S) (l : ∀ G S, Bk G S → Bk' G S) : SPX r N' Rt' Bk' V := h.monoX i j l fun _ _ _ z => z
theorem EP.mono {r : R α} {Q Q' : α → Store → Prop} (h : EP r Q) (i : ∀ a S, Q a S → Q' a S) : EP r Q' := EPX.mono h i
theorem SP.mono {r : SR} {N' Bk' : Env → Store → Prop} {Rt' : D → Store → Prop} (h : SP r N Rt Bk) (i : ∀ G S, N G S → N' G S) (j : ∀ d S, Rt d S → Rt' d S) (l : ∀ G S, Bk G S → Bk' G S) : SP r N' Rt' Bk' := SPX.mono h i j l
theorem EP.ok {r : R α} {Q : α → Store → Prop} (h : EP r Q) : ∃ a S, r = .ok a S ∧ Q a S := by
  cases h with
  | ok h => exact ⟨_, _, rfl, h⟩
  | exc h => exact h.elim
@[simp] theorem EP_ok {a : α} {Q : α → Store → Prop} : EPX (.ok a S) Q W ↔ Q a S := ⟨fun h => (by cases h; assumption), .ok⟩
@[simp] theorem EP_exc {x : Xc} {Q : α → Store → Prop} : EPX (.exc x S) Q W ↔ W x S := ⟨fun h => (by cases h; assumption), .exc⟩
@[simp] theorem EP_bad {Q : α → Store → Prop} : EPX .bad Q W ↔ False := ⟨fun h => (by cases h), fun h => h.elim⟩
@[simp] theorem SP_nx : SPX (.fl .nx G S) N Rt Bk V ↔ N G S := ⟨fun h => (by cases h; assumption), .nx⟩
@[simp] theorem SP_ret {d : D} : SPX (.fl (.ret d) G S) N Rt Bk V ↔ Rt d S := ⟨fun h => (by cases h; assumption), .ret⟩
@[simp] theorem SP_brk : SPX (.fl .brk G S) N Rt Bk V ↔ Bk G S := ⟨fun h => (by cases h; assumption), .brk⟩
@[simp] theorem SP_exc {x : Xc} : SPX (.exc x G S) N Rt Bk V ↔ V x G S := ⟨fun h => (by cases h; assumption), .exc⟩
@[simp] theorem SP_bad : SPX .bad N Rt Bk V ↔ False := ⟨fun h => (by cases h), fun h => h.elim⟩
@[simp] theorem EP_bind {r : R α} {f : α → Store → R β} {Q : β → Store → Prop} : EPX (r.bind f) Q W ↔ EPX r (fun a S => EPX (f a S) Q W) W := by cases r <;> simp [R.bind]
@[simp] theorem EP_tst {r : R D} {f : Bool → Store → R D} : EPX (tst r f) Q W ↔ EPX r (fun d S => ∃ b, d = .bl b ∧ EPX (f b S) Q W) W := by
  unfold tst
  rw [EP_bind]
  cases r with
  | ok a S => cases a <;> simp [-Bool.exists_bool]
  | exc _ _ => simp
  | bad => simp
@[simp] theorem EP_opt {o : Option α} {Q : α → Store → Prop} : EPX (R.opt o S) Q W ↔ ∃ a, o = some a ∧ Q a S := by
  cases o with
  | none => simp [R.opt]
  | some a => simp [R.opt]
@[simp] theorem EP_map {γ δ : Type} {o : Option γ} {f : γ → δ} {Q : δ → Store → Prop} : EPX (R.opt (o.map f) S) Q W ↔ ∃ a, o = some a ∧ Q (f a) S := by
  cases o with
  | none => simp [R.opt]
  | some a => simp [R.opt]
@[simp] theorem EP_if {p : Prop} [Decidable p] {r : R α} {Q : α → Store → Prop} : EPX (if p then r else .bad) Q W ↔ p ∧ EPX r Q W := by
  by_cases h : p
  · simp [h]
  · simp [h]
@[simp] theorem bind_ok {a : α} {f : α → Store → R β} : (R.ok a S).bind f = f a S := rfl
@[simp] theorem opt_some {a : α} : R.opt (some a) S = .ok a S := rfl
@[simp] theorem toS_ok {a : α} {f : α → Store → SR} : (R.ok a S).toS G f = f a S := rfl
@[simp] theorem tst_bl {b : Bool} {f : Bool → Store → R D} : tst (.ok (.bl b) S) f = f b S := rfl
@[simp] theorem SP_toS {r : R α} {f : α → Store → SR} : SPX (r.toS G f) N Rt Bk V ↔ EPX r (fun a S => SPX (f a S) N Rt Bk V) (fun x S => V x G S) := by cases r <;> simp [R.toS]
theorem EP_congr {r : R α} {Q Q' : α → Store → Prop} {W : Xc → Store → Prop} (h : ∀ a S, Q a S ↔ Q' a S) : EPX r Q W ↔ EPX r Q' W := iff_of_eq (congrArg (fun q => EPX r q W) (funext fun a => funext fun S => propext (h a S)))
/-! ### statements -/
@[simp] theorem SP_nil : SPX (evSs C .nil G S) N Rt Bk V ↔ N G S := by simp [evSs]
@[simp] theorem SP_cons {s : NW.S} {ss : Ss} : SPX (evSs C (.cons s ss) G S1) N Rt Bk V ↔ SPX (evS C s G S1) (fun G2 S2 => SPX (evSs C ss G2 S2) N Rt Bk V) Rt Bk V := by
  simp only [evSs]
  cases evS C s G S1 with
  | fl f G S => cases f <;> simp
  | exc _ _ _ => simp
  | bad => simp
@[simp] theorem SP_set {i : Nat} {e : E} : SPX (evS C (.set i e) G S) N Rt Bk V ↔ EPX (evE C e G S) (fun d S1 => N (setV G i d) S1) (fun x S => V x G S) := by simp [evS]
@[simp] theorem SP_ret' {e : E} : SPX (evS C (.ret e) G S) N Rt Bk V ↔ EPX (evE C e G S) Rt (fun x S => V x G S) := by simp [evS]
@[simp] theorem SP_exp {e : E} : SPX (evS C (.exp e) G S) N Rt Bk V ↔ EPX (evE C e G S) (fun _ S1 => N G S1) (fun x S => V x G S) := by simp [evS]
@[simp] theorem SP_brk' : SPX (evS C .brk G S) N Rt Bk V ↔ Bk G S := by simp [evS]
@[simp] theorem SP_ife {c : E} {a b : Ss} : SPX (evS C (.ife c a b) G S) N Rt Bk V ↔ EPX (evE C c G S) (fun d S1 => ∃ t, d = .bl t ∧ SPX (evSs C (cond t a b) G S1) N Rt Bk V) (fun x S => V x G S) := by
  simp only [evS, SP_toS]
  refine EP_congr fun d S1 => ?_
  cases d with
  | bl t => cases t <;> simp [-Bool.exists_bool]
  | _ => simp
@[simp] theorem SP_setT {is : List Nat} {e : E} : SPX (evS C (.setT is e) G S) N Rt Bk V ↔ EPX (evE C e G S) (fun d S1 => ∃ G2, setTg G (.tup is) d = some G2 ∧ N G2 S1) (fun x S => V x G S) := by
  simp only [evS, SP_toS]
  refine EP_congr fun d S1 => ?_
  cases setTg G (.tup is) d <;> simp
@[simp] theorem SP_par {is : List Nat} {es : Es} : SPX (evS C (.par is es) G S) N Rt Bk V ↔ EPX (evEs C es G S) (fun ds S1 => ∃ G2, setVs G is ds = some G2 ∧ N G2 S1) (fun x S => V x G S) := by
  simp only [evS, SP_toS]
  refine EP_congr fun d S1 => ?_
  cases setVs G is d <;> simp
@[simp] theorem SP_setI {o i e : E} : SPX (evS C (.setI o i e) G S) N Rt Bk V ↔ EPX (evE C e G S) (fun d S1 => EPX (evE C o G S1) (fun x S2 => EPX (evE C i G S2) (fun y S3 => ∃ S4, setItemD S3 x y d = some S4 ∧ N G S4) (fun x S => V x G S)) (fun x S => V x G S)) (fun x S => V x G S) := by
  simp only [evS, SP_toS]
  refine EP_congr fun d S1 => EP_congr fun x S2 => EP_congr fun y S3 => ?_
  cases setItemD S3 x y d <;> simp
@[simp] theorem SP_app {o e : E} : SPX (evS C (.app o e) G S) N Rt Bk V ↔ EPX (evE C o G S) (fun x S1 => (listOf S1 x).isSome = true ∧ EPX (evE C e G S1) (fun d S2 => ∃ S3, appD S2 x d = some S3 ∧ N G S3) (fun x S => V x G S)) (fun x S => V x G S) := by
  simp only [evS, SP_toS]
  refine EP_congr fun d S1 => ?_
  by_cases h : (listOf S1 d).isSome = true
  · rw [if_pos h, SP_toS]
    simp only [h, true_and]
    refine EP_congr fun a S => ?_
    cases appD S d a <;> simp
  · rw [if_neg h]
    simp [h]
/-- a for: by an invariant over the items still to come -/
theorem SP_forGo {tg : Tg} {b : MS} {src : Src} (I : List D → Env → Store → Prop) (hst : ∀ xs G S, I xs G S → src.stays S = true) (hd : ∀ G S, I [] G S → N G S)
    (hs : ∀ x xs G S, I (x :: xs) G S → ∃ G2, setTg G tg x = some G2 ∧ SPX (b G2 S) (I xs) Rt N V) : ∀ xs G S, I xs G S → SPX (forGo tg b src xs G S) N Rt Bk V
  | [], G, S, h => by
    simp only [forGo]
    rw [if_pos (hst _ _ _ h)]
    exact .nx (hd _ _ h)
  | x :: xs, G, S, h => by
    simp only [forGo]
    rw [if_pos (hst _ _ _ h)]
    obtain ⟨G2, h1, h2⟩ := hs _ _ _ _ h
    rw [h1]
    dsimp only
    generalize b G2 S = r at h2
    cases h2 with
    | nx h => exact SP_forGo I hst hd hs xs _ _ h
    | ret h => exact .ret h
    | brk h => exact .nx h
    | exc h => exact .exc h
@[simp] theorem SP_for {tg : Tg} {it : NW.It} {b : Ss} : SPX (evS C (.for_ tg it b) G S) N Rt Bk V ↔ EPX (evI C it G S) (fun src S1 => SPX (forGo tg (evSs C b) src src.items G S1) N Rt Bk V) (fun x S => V x G S) := by simp [evS]
/-- a while: by an invariant and a measure -/
theorem SP_whlGo {c : ME} {b : MS} (I : Nat → Env → Store → Prop) (hs : ∀ n G S, I n G S → EPX (c G S) (fun d S1 => (d = .bl false ∧ N G S1) ∨ (d = .bl true ∧ SPX (b G S1) (fun G2 S2 => ∃ m, m < n ∧ I m G2 S2) Rt N V)) (fun x S => V x G S)) :
    ∀ k n G S, n < k → I n G S → SPX (whlGo c b k G S) N Rt Bk V
  | 0, n, _, _, h, _ => absurd h (Nat.not_lt_zero _)
  | k + 1, n, G, S, h, i => by
    simp only [whlGo]
    rw [SP_toS]
    refine (hs n G S i).mono fun d S1 q => ?_
    rcases q with ⟨rfl, q⟩ | ⟨rfl, q⟩
    · exact .nx q
    · dsimp only
      generalize b G S1 = r at q
      cases q with
      | nx q =>
        obtain ⟨m, hm, q⟩ := q
        exact SP_whlGo I hs k m _ _ (by omega) q
      | ret h => exact .ret h
      | brk h => exact .nx h
      | exc h => exact .exc h
theorem SP_whl {c : E} {b : Ss} (I : Nat → Env → Store → Prop) {n : Nat} (hn : n < whlMost) (h0 : I n G S)
    (hs : ∀ n G S, I n G S → EPX (evE C c G S) (fun d S1 => (d = .bl false ∧ N G S1) ∨ (d = .bl true ∧ SPX (evSs C b G S1) (fun G2 S2 => ∃ m, m < n ∧ I m G2 S2) Rt N V)) (fun x S => V x G S)) : SPX (evS C (.whl c b) G S) N Rt Bk V := by
  simp only [evS]
  exact SP_whlGo I hs _ n G S hn h0
/-- the def f of the program is this one, but for its names -/
def Is (T : Nat → Option FD) (f : Nat) (fd : FD) : Prop := ∃ fd', T f = some fd' ∧ fd'.body = fd.body ∧ fd'.np = fd.np ∧ fd'.N.length = fd.N.length ∧ fd'.tr = fd.tr
/-- a def's call -/
theorem EP_call {T : Nat → Option FD} {k f : Nat} {fd : FD} {ds : List D} (hf : Is T f fd) (hn : ds.length = fd.np) (ht : fd.tr = false) (h : SPX (evSs (callN T k) fd.body (startE fd.N.length ds) S) (fun _ S1 => Q .non S1) Q (fun _ _ => False) (fun x _ S => W x S)) : EPX (callN T (k + 1) f ds S) Q W := by
  obtain ⟨fd', hf, e1, e2, e3, e4⟩ := hf
  simp only [callN, hf, hn, e1, e2, e3, e4, if_true]
  generalize evSs (callN T k) fd.body (startE fd.N.length ds) S = r at h
  cases h with
  | nx h => simp only [endCall, ht]; exact .ok h
  | ret h => simp only [endCall, ht]; exact .ok h
  | brk h => exact h.elim
  | exc h => exact .exc h
/-- the same, where the depth that is left has a bound -/
theorem EP_callB {T : Nat → Option FD} {k f : Nat} {fd : FD} {ds : List D} (hf : Is T f fd) (hk : 0 < k) (hn : ds.length = fd.np) (ht : fd.tr = false) (h : SPX (evSs (callN T (k - 1)) fd.body (startE fd.N.length ds) S) (fun _ S1 => Q .non S1) Q (fun _ _ => False) (fun x _ S => W x S)) : EPX (callN T k f ds S) Q W := by
  obtain ⟨j, rfl⟩ : ∃ j, k = j + 1 := ⟨k - 1, by omega⟩
  exact EP_call hf hn ht h
theorem EP.to {r : R α} {Q Q' : α → Store → Prop} {W' : Xc → Store → Prop} (h : EP r Q) (i : ∀ a S, Q a S → Q' a S) : EPX r Q' W' := h.monoX i fun _ _ z => z.elim
theorem SP.to {r : SR} {N' Bk' : Env → Store → Prop} {Rt' : D → Store → Prop} {V' : Xc → Env → Store → Prop} (h : SP r N Rt Bk) (i : ∀ G S, N G S → N' G S) (j : ∀ d S, Rt d S → Rt' d S) (l : ∀ G S, Bk G S → Bk' G S) : SPX r N' Rt' Bk' V' := h.monoX i j l fun _ _ _ z => z.elim
theorem EP_pure {r : R α} {a : α} (h : EP r fun a' S' => a' = a ∧ S' = S) : r = .ok a S := by
  cases h with
  | ok h => obtain ⟨rfl, rfl⟩ := h; rfl
  | exc h => exact h.elim
theorem EP_raise {r : R α} {x : Xc} (h : EPX r (fun _ _ => False) fun x' S' => x' = x ∧ S' = S) : r = .exc x S := by
  cases h with
  | exc h => obtain ⟨rfl, rfl⟩ := h; rfl
  | ok h => exact h.elim

/-! ### expressions -/
section
variable {a b c i : E} {es : Es} {e : E}
@[simp] theorem EP_var {i : Nat} : EPX (evE C (.var i) G S) Q W ↔ ∃ d, (G[i]?).bind id = some d ∧ Q d S := by simp [evE]
@[simp] theorem EP_bin {op : Operator} : EPX (evE C (.bin op a b) G S) Q W ↔ EPX (evE C a G S) (fun x S1 => EPX (evE C b G S1) (fun y S2 => ∃ d, binOp op S2 x y = some d ∧ Q d S2) W) W := by simp [evE]
@[simp] theorem EP_neg : EPX (evE C (.neg a) G S) Q W ↔ EPX (evE C a G S) (fun x S1 => ∃ d, negD x = some d ∧ Q d S1) W := by simp [evE]
@[simp] theorem EP_cmp {op : CmpOp} : EPX (evE C (.cmp op a b) G S) Q W ↔ EPX (evE C a G S) (fun x S1 => EPX (evE C b G S1) (fun y S2 => ∃ t, cmpOp op S2 x y = some t ∧ Q (.bl t) S2) W) W := by
  simp only [evE, EP_bind, EP_map]
@[simp] theorem EP_chn {op op' : CmpOp} : EPX (evE C (.chn op op' a b c) G S) Q W ↔ EPX (evE C a G S) (fun x S1 => EPX (evE C b G S1) (fun y S2 => ∃ t, cmpOp op S2 x y = some t ∧ EPX (cond t ((evE C c G S2).bind fun z S3 => R.opt ((cmpOp op' S3 y z).map .bl) S3) (.ok (.bl false) S2)) Q W) W) W := by
  simp [evE]
@[simp] theorem EP_not : EPX (evE C (.not a) G S) Q W ↔ EPX (evE C a G S) (fun d S1 => ∃ t, d = .bl t ∧ Q (.bl (!t)) S1) W := by simp [evE]
@[simp] theorem EP_ite : EPX (evE C (.ite c a b) G S) Q W ↔ EPX (evE C c G S) (fun d S1 => ∃ t, d = .bl t ∧ EPX (evE C (cond t a b) G S1) Q W) W := by
  simp only [evE, EP_tst]
  refine EP_congr fun d S1 => exists_congr fun t => and_congr_right fun _ => ?_
  cases t <;> rfl
@[simp] theorem EP_tup : EPX (evE C (.tup es) G S) Q W ↔ EPX (evEs C es G S) (fun ds S1 => ds.length ≤ lineN ∧ Q (.tup ds) S1) W := by
  simp only [evE, EP_bind, EP_if, EP_ok]
@[simp] theorem EP_lst : EPX (evE C (.lst es) G S) Q W ↔ EPX (evEs C es G S) (fun ds S1 => ds.length ≤ lineN ∧ Q (.lst ds) S1) W := by
  simp only [evE, EP_bind, EP_if, EP_ok]
@[simp] theorem EP_nlst : EPX (evE C (.nlst es) G S) Q W ↔ EPX (evEs C es G S) (fun ds S1 => ds.length ≤ lineN ∧ Q (.loc S1.length) (S1 ++ [.lst ds])) W := by
  simp only [evE, EP_bind, EP_if, EP_ok]
@[simp] theorem EP_idx : EPX (evE C (.idx a i) G S) Q W ↔ EPX (evE C a G S) (fun x S1 => EPX (evE C i G S1) (fun y S2 => ∃ d, idxOp S2 x y = some d ∧ Q d S2) W) W := by simp [evE]
@[simp] theorem EP_sl {lo hi : Oe} : EPX (evE C (.sl a lo hi) G S) Q W ↔ EPX (evE C a G S) (fun x S1 => EPX (evO C lo G S1) (fun l S2 => EPX (evO C hi G S2) (fun h S3 => ∃ d, slOp S3 x l h = some d ∧ Q d S3) W) W) W := by simp [evE]
@[simp] theorem EP_callE {f : Nat} : EPX (evE C (.call f es) G S) Q W ↔ EPX (evEs C es G S) (fun ds S1 => EPX (C f ds S1) Q W) W := by simp [evE]
@[simp] theorem EP_cb {f : Bf} : EPX (evE C (.cb f es) G S) Q W ↔ EPX (evEs C es G S) (fun ds S1 => ∃ d, callB f S1 ds = some d ∧ Q d S1) W := by simp [evE]
@[simp] theorem EP_isi {t : Ty} : EPX (evE C (.isi a t) G S) Q W ↔ EPX (evE C a G S) (fun x S1 => ∃ b, NW.isi S1 x t = some b ∧ Q (.bl b) S1) W := by simp only [evE, EP_bind, EP_map]
@[simp] theorem EP_comp {own : List (Str × Nat)} {tg : Tg} {it : NW.It} {c : Oe} : EPX (evE C (.comp e own tg it c) G S) Q W ↔ EPX (evI C it G S) (fun src S1 => EPX (compGo tg (evC C c) (evE C e) src (wipeE G (own.map (·.2))) src.items [] S1) Q W) W := by simp [evE]
@[simp] theorem EP_and1 : EPX (evAnd C (.cons e .nil) G S) Q W ↔ EPX (evE C e G S) Q W := by rw [evAnd_one]
@[simp] theorem EP_and2 {e2 : E} : EPX (evAnd C (.cons e (.cons e2 es)) G S) Q W ↔ EPX (evE C e G S) (fun d S1 => ∃ t, d = .bl t ∧ EPX (cond t (evAnd C (.cons e2 es) G S1) (.ok (.bl false) S1)) Q W) W := by rw [evAnd_more, EP_tst]
@[simp] theorem EP_or1 : EPX (evOr C (.cons e .nil) G S) Q W ↔ EPX (evE C e G S) Q W := by rw [evOr_one]
@[simp] theorem EP_or2 {e2 : E} : EPX (evOr C (.cons e (.cons e2 es)) G S) Q W ↔ EPX (evE C e G S) (fun d S1 => ∃ t, d = .bl t ∧ EPX (cond t (.ok (.bl true) S1) (evOr C (.cons e2 es) G S1)) Q W) W := by rw [evOr_more, EP_tst]
@[simp] theorem EP_and : EPX (evE C (.and es) G S) Q W ↔ EPX (evAnd C es G S) Q W := by simp [evE]
@[simp] theorem EP_or : EPX (evE C (.or es) G S) Q W ↔ EPX (evOr C es G S) Q W := by simp [evE]
@[simp] theorem EP_non : EPX (evE C .non G S) Q W ↔ Q .non S := by simp [evE]
@[simp] theorem EP_bl {b : Bool} : EPX (evE C (.bl b) G S) Q W ↔ Q (.bl b) S := by simp [evE]
@[simp] theorem EP_int {i : Int} : EPX (evE C (.int i) G S) Q W ↔ Q (.int i) S := by simp [evE]
@[simp] theorem EP_str {x : Str} : EPX (evE C (.str x) G S) Q W ↔ Q (.str x) S := by simp [evE]
@[simp] theorem EP_cst {x : Str} {d : D} : EPX (evE C (.cst x d) G S) Q W ↔ Q d S := by simp [evE]
@[simp] theorem EP_esn {Q : List D → Store → Prop} : EPX (evEs C .nil G S) Q W ↔ Q [] S := by simp [evEs]
@[simp] theorem EP_esc {Q : List D → Store → Prop} : EPX (evEs C (.cons e es) G S) Q W ↔ EPX (evE C e G S) (fun d S1 => EPX (evEs C es G S1) (fun ds S2 => Q (d :: ds) S2) W) W := by simp [evEs]
@[simp] theorem EP_on {Q : Option Int → Store → Prop} : EPX (evO C .none G S) Q W ↔ Q none S := by simp [evO]
@[simp] theorem EP_os {Q : Option Int → Store → Prop} : EPX (evO C (.some e) G S) Q W ↔ EPX (evE C e G S) (fun d S1 => ∃ i, partOf d = some i ∧ Q (some i) S1) W := by simp [evO]
@[simp] theorem EP_ie {Q : Src → Store → Prop} : EPX (evI C (.e e) G S) Q W ↔ EPX (evE C e G S) (fun d S1 => ∃ s, srcOf S1 d = some s ∧ Q s S1) W := by simp [evI]
@[simp] theorem EP_rng {Q : Src → Store → Prop} : EPX (evI C (.rng e) G S) Q W ↔ EPX (evE C e G S) (fun d S1 => ∃ s, rngSrc (.int 0) d = some s ∧ Q s S1) W := by simp [evI]
@[simp] theorem EP_rng2 {Q : Src → Store → Prop} : EPX (evI C (.rng2 a b) G S) Q W ↔ EPX (evE C a G S) (fun d S1 => EPX (evE C b G S1) (fun d2 S2 => ∃ s, rngSrc d d2 = some s ∧ Q s S2) W) W := by simp [evI]
@[simp] theorem evC_none : evC C .none = none := by simp [evC]
@[simp] theorem evC_some : evC C (.some e) = some (evE C e) := by simp [evC]
end
end
/-! ### comprehensions that change nothing -/
theorem compGo_pure {tg : Tg} {c : Option ME} {elt : ME} {src : Src} {G : Env} {S : Store} (p : D → Bool) (f : D → D) (hst : src.stays S = true) :
    ∀ (xs acc : List D), acc.length + xs.length ≤ lineN → (∀ x ∈ xs, ∃ G2, setTg G tg x = some G2 ∧ (match c with
      | none => p x = true
      | some c' => c' G2 S = .ok (.bl (p x)) S) ∧ (p x = true → elt G2 S = .ok (f x) S)) → compGo tg c elt src G xs acc S = .ok (.lst (acc ++ (xs.filter p).map f)) S
  | [], acc, _, _ => by simp only [compGo, hst, if_true]; simp
  | x :: xs, acc, hl, h => by
    obtain ⟨G2, h1, h2, h3⟩ := h x List.mem_cons_self
    have hlt : acc.length < lineN := by simp at hl; omega
    have ih := fun acc' hl' => compGo_pure p f hst xs acc' hl' fun y hy => h y (List.mem_cons_of_mem _ hy)
    simp only [compGo, hst, hlt, decide_true, Bool.and_self, if_true, h1, compTurn]
    cases c with
    | none =>
      dsimp only at h2 ⊢
      rw [h3 h2]
      simp only [noEx]
      rw [ih _ (by simp at hl ⊢; omega), List.filter_cons_of_pos h2]
      simp
    | some c' =>
      dsimp only at h2 ⊢
      rw [h2]
      simp only [noEx]
      by_cases hp : p x = true
      · rw [hp]
        dsimp only
        rw [h3 hp]
        dsimp only
        rw [ih _ (by simp at hl ⊢; omega), List.filter_cons_of_pos hp]
        simp
      · rw [Bool.eq_false_iff.mpr hp]
        dsimp only
        rw [ih _ (by simp at hl ⊢; omega), List.filter_cons_of_neg hp]
theorem compGo_map {tg : Tg} {elt : ME} {G : Env} {S : Store} {xs : List D} (f : D → D) (hl : xs.length ≤ lineN) (h : ∀ x ∈ xs, ∃ G2, setTg G tg x = some G2 ∧ elt G2 S = .ok (f x) S) :
    compGo tg none elt ⟨xs, none⟩ G xs [] S = .ok (.lst (xs.map f)) S := by
  have := compGo_pure (tg := tg) (c := none) (elt := elt) (src := ⟨xs, none⟩) (G := G) (S := S) (fun _ => true) f rfl xs [] (by simpa using hl) fun x hx => let ⟨G2, h1, h2⟩ := h x hx; ⟨G2, h1, rfl, fun _ => h2⟩
  rw [this, List.nil_append, List.filter_eq_self.mpr fun _ _ => rfl]
/-- a comprehension: by an invariant over the items still to come and what is made -/
theorem EP_compGo {tg : Tg} {c : Option ME} {elt : ME} {src : Src} {G : Env} {Q : D → Store → Prop} {W : Xc → Store → Prop} (I : List D → List D → Store → Prop) (hst : ∀ xs acc S, I xs acc S → src.stays S = true) (hd : ∀ acc S, I [] acc S → Q (.lst acc) S)
    (hs : ∀ x xs acc S, I (x :: xs) acc S → ∃ G2, setTg G tg x = some G2 ∧ (match c with
      | none => EP (elt G2 S) fun d S' => I xs (acc ++ [d]) S'
      | some c' => EP (c' G2 S) fun t S1 => (t = .bl true ∧ EP (elt G2 S1) fun d S' => I xs (acc ++ [d]) S') ∨ (t = .bl false ∧ I xs acc S1))) :
    ∀ (xs acc : List D) (S : Store), acc.length + xs.length ≤ lineN → I xs acc S → EPX (compGo tg c elt src G xs acc S) Q W
  | [], acc, S, _, i => by
    simp only [compGo]
    rw [if_pos (hst _ _ _ i)]
    exact .ok (hd _ _ i)
  | x :: xs, acc, S, hl, i => by
    obtain ⟨G2, h1, h2⟩ := hs x xs acc S i
    have hlt : acc.length < lineN := by simp at hl; omega
    simp only [compGo, hst _ _ _ i, hlt, decide_true, Bool.and_self, if_true, h1, compTurn]
    cases c with
    | none =>
      dsimp only at h2 ⊢
      obtain ⟨d, S', e, i'⟩ := EP.ok h2
      rw [e]
      exact EP_compGo I hst hd hs xs _ _ (by simp at hl ⊢; omega) i'
    | some c' =>
      dsimp only at h2 ⊢
      obtain ⟨t, S1, e, q⟩ := EP.ok h2
      rw [e]
      rcases q with ⟨rfl, q⟩ | ⟨rfl, q⟩
      · obtain ⟨d, S', e, i'⟩ := EP.ok q
        simp only [noEx]
        rw [e]
        exact EP_compGo I hst hd hs xs _ _ (by simp at hl ⊢; omega) i'
      · simp only [noEx]
        exact EP_compGo I hst hd hs xs _ _ (by simp at hl ⊢; omega) q
theorem EPX.eq {α : Type} {r : R α} {a : α} {S : Store} {Q : α → Store → Prop} {W : Xc → Store → Prop} (h : r = .ok a S) (q : Q a S) : EPX r Q W := by rw [h]; exact .ok q
end NW
end
section
/- The operations, by what they are asked of. -/
namespace NW
open PySem
section
variable {S : Store} {i j : Int} {xs ys ds : List D} {x y : Str} {d : D} {b : Bool} {n : Nat}
@[simp] theorem startE_eq : startE n ds = ds.map some ++ List.replicate (n - ds.length) none := rfl
@[simp] theorem bin_int {op : Operator} : binOp op S (.int i) (.int j) = (binInt op i j).map .int := rfl
@[simp] theorem bin_tup {op : Operator} : binOp op S (.tup xs) (.tup ys) = binTup op xs ys := rfl
@[simp] theorem bin_lst {op : Operator} : binOp op S (.lst xs) (.lst ys) = binLst op xs ys := rfl
@[simp] theorem bin_str : binOp .Add S (.str x) (.str y) = if x.length + y.length ≤ lineN then some (.str (x ++ y)) else none := by
  simp only [binOp, true_and]
@[simp] theorem bin_rept : binOp .Mult S (.tup xs) (.int j) = repTup xs j := rfl
@[simp] theorem bin_repl : binOp .Mult S (.lst xs) (.int j) = repLst xs j := rfl
@[simp] theorem bi_add : binInt .Add i j = some (i + j) := rfl
@[simp] theorem bi_sub : binInt .Sub i j = some (i - j) := rfl
@[simp] theorem bi_mul : binInt .Mult i j = if mulOk i j then some (i * j) else none := rfl
@[simp] theorem bi_div : binInt .FloorDiv i j = if divOk j then some (i / j) else none := rfl
@[simp] theorem bi_mod : binInt .Mod i j = if 0 < j then some (i % j) else none := rfl
@[simp] theorem bi_pow : binInt .Pow i j = if powOk i j then some (i ^ j.toNat) else none := rfl
@[simp] theorem bt_add : binTup .Add xs ys = if xs.length + ys.length ≤ lineN then some (.tup (xs ++ ys)) else none := rfl
@[simp] theorem bl_add : binLst .Add xs ys = if xs.length + ys.length ≤ lineN then some (.lst (xs ++ ys)) else none := rfl
@[simp] theorem neg_int : negD (.int i) = some (.int (-i)) := rfl
@[simp] theorem part_int : partOf (.int i) = some i := rfl
theorem mulOk_r {i j : Int} (h1 : -(2 ^ 64) < j) (h2 : j < 2 ^ 64) : mulOk i j = true := by
  unfold mulOk
  simp only [Bool.or_eq_true, decide_eq_true_eq]
  exact .inr (.inl ⟨h1, h2⟩)
theorem mulOk_l {i j : Int} (h1 : -(2 ^ 64) < i) (h2 : i < 2 ^ 64) : mulOk i j = true := by
  unfold mulOk
  simp only [Bool.or_eq_true, decide_eq_true_eq]
  exact .inl ⟨h1, h2⟩
theorem divOk_s {j : Int} (h1 : 0 < j) (h2 : j < 1073741824) : divOk j = true := by
  unfold divOk
  simp only [Bool.and_eq_true, Bool.or_eq_true, decide_eq_true_eq]
  exact ⟨h1, .inl h2⟩
/-! comparisons -/
@[simp] theorem flat_int : flat S (.int i) = .int i := rfl
@[simp] theorem flat_str : flat S (.str x) = .str x := rfl
@[simp] theorem flat_tup : flat S (.tup xs) = .tup xs := rfl
@[simp] theorem flat_lst : flat S (.lst xs) = .lst xs := rfl
@[simp] theorem flat_non : flat S .non = .non := rfl
@[simp] theorem flat_bl : flat S (.bl b) = .bl b := rfl
theorem flat_ok (h : d.ok = true) : flat S d = d := by cases d <;> first | rfl | (simp only [D.ok] at h; cases h)
@[simp] theorem cmp_lt : cmpOp .Lt S (.int i) (.int j) = some (decide (i < j)) := rfl
@[simp] theorem cmp_le : cmpOp .LtE S (.int i) (.int j) = some (decide (i ≤ j)) := rfl
@[simp] theorem cmp_gt : cmpOp .Gt S (.int i) (.int j) = some (decide (j < i)) := rfl
@[simp] theorem cmp_ge : cmpOp .GtE S (.int i) (.int j) = some (decide (j ≤ i)) := rfl
theorem cmp_eq {a c : D} : cmpOp .Eq S a c = if eqOk (flat S a) (flat S c) then some (D.eqv (flat S a) (flat S c)) else none := rfl
theorem cmp_ne {a c : D} : cmpOp .NotEq S a c = if eqOk (flat S a) (flat S c) then some (!D.eqv (flat S a) (flat S c)) else none := rfl
theorem cmp_in {a c : D} : cmpOp .In S a c = (seqOf S c).bind fun ds => if inOk (flat S a) ds then some (ds.any fun z => D.eqv z (flat S a)) else none := rfl
theorem cmp_nin {a c : D} : cmpOp .NotIn S a c = (seqOf S c).bind fun ds => if inOk (flat S a) ds then some (!ds.any fun z => D.eqv z (flat S a)) else none := rfl
@[simp] theorem cmp_is {a : D} : cmpOp .Is S a .non = some (isNone a) := rfl
@[simp] theorem cmp_isn {a : D} : cmpOp .IsNot S a .non = some (!isNone a) := rfl
@[simp] theorem isNone_non : isNone .non = true := rfl
@[simp] theorem isNone_int : isNone (.int i) = false := rfl
@[simp] theorem isNone_tup : isNone (.tup xs) = false := rfl
@[simp] theorem isNone_lst : isNone (.lst xs) = false := rfl
@[simp] theorem isNone_str : isNone (.str x) = false := rfl
@[simp] theorem isNone_bl : isNone (.bl b) = false := rfl
@[simp] theorem seq_tup : seqOf S (.tup ds) = some ds := rfl
@[simp] theorem seq_lst : seqOf S (.lst ds) = some ds := rfl
@[simp] theorem seq_scr {ns : List Int} : seqOf S (.scr ns) = some (ns.map .int) := rfl
@[simp] theorem list_lst : listOf S (.lst ds) = some ds := rfl
theorem list_loc (h : S[n]? = some (.lst ds)) : listOf S (.loc n) = some ds := by simp only [listOf, h]
theorem seq_loc (h : S[n]? = some (.lst ds)) : seqOf S (.loc n) = some ds := by simp only [seqOf, listOf, h]
@[simp] theorem idx_tup : idxOp S (.tup ds) (.int j) = atD ds j := rfl
@[simp] theorem idx_lst : idxOp S (.lst ds) (.int j) = atD ds j := rfl
theorem idx_loc (h : S[n]? = some (.lst ds)) : idxOp S (.loc n) (.int j) = atD ds j := by simp only [idxOp, seqOf, listOf, h]; rfl
@[simp] theorem sl_tup {l h : Option Int} : slOp S (.tup ds) l h = some (.tup (cutD ds l h)) := rfl
@[simp] theorem sl_lst {l h : Option Int} : slOp S (.lst ds) l h = some (.lst (cutD ds l h)) := rfl
theorem atD_nat {k : Nat} (h : k < ds.length) : atD ds (k : Int) = some ds[k] := by
  unfold atD ixAt
  rw [if_pos (Int.natCast_nonneg k), if_pos (by omega)]
  simp [h]
@[simp] theorem atD_0 : atD (d :: ds) 0 = some d := by simp [atD, ixAt]
@[simp] theorem atD_1 {d2 : D} : atD (d :: d2 :: ds) 1 = some d2 := by
  have := atD_nat (ds := d :: d2 :: ds) (k := 1) (by simp)
  exact this
@[simp] theorem atD_2 {d2 d3 : D} : atD (d :: d2 :: d3 :: ds) 2 = some d3 := by
  have := atD_nat (ds := d :: d2 :: d3 :: ds) (k := 2) (by simp)
  exact this
@[simp] theorem len_str : callB .len S [.str x] = if x.length ≤ lineN then some (.int x.length) else none := rfl
@[simp] theorem len_tup : callB .len S [.tup ds] = some (.int ds.length) := rfl
@[simp] theorem len_lst : callB .len S [.lst ds] = some (.int ds.length) := rfl
@[simp] theorem len_scr {ns : List Int} : callB .len S [.scr ns] = some (.int ns.length) := by
  show some (D.int ((ns.map D.int).length : Nat)) = _
  rw [List.length_map]
theorem len_loc (h : S[n]? = some (.lst ds)) : callB .len S [.loc n] = some (.int ds.length) := by
  show (seqOf S (.loc n)).map _ = _
  rw [seq_loc h]
  rfl
@[simp] theorem int_int : callB .int S [.int i] = some (.int i) := rfl
@[simp] theorem abs_int : callB .abs S [.int i] = some (.int (if i < 0 then -i else i)) := rfl
@[simp] theorem list_tup' : callB .list S [.tup ds] = some (.lst ds) := rfl
@[simp] theorem list_lst' : callB .list S [.lst ds] = some (.lst ds) := rfl
@[simp] theorem tup_lst' : callB .tuple S [.lst ds] = some (.tup ds) := rfl
@[simp] theorem tup_tup' : callB .tuple S [.tup ds] = some (.tup ds) := rfl
@[simp] theorem min_int : callB .min S [.int i, .int j] = some (.int (if j < i then j else i)) := rfl
@[simp] theorem max_int : callB .max S [.int i, .int j] = some (.int (if j > i then j else i)) := rfl
@[simp] theorem all_lst : callB .all S [.lst ds] = (allBl ds).map fun bs => .bl (bs.all id) := rfl
theorem allBl_map {α : Type} (f : α → Bool) : ∀ l : List α, allBl (l.map fun a => D.bl (f a)) = some (l.map f)
  | [] => rfl
  | a :: l => by
    simp only [List.map_cons, allBl, allBl_map f l, Option.map_some]
/-- isinstance by kinds -/
def kindIs (t : Ty) : D → Bool
  | .bl _ => decide (t = .bool) || decide (t = .int)
  | .int _ => decide (t = .int)
  | .str _ => decide (t = .str)
  | .tup _ => decide (t = .tuple)
  | .lst _ => decide (t = .list)
  | _ => false
theorem isi_ok {t : Ty} (h : d.ok = true) : isi S d t = some (kindIs t d) := by
  unfold isi
  rw [flat_ok h]
  cases d <;> first | rfl | (simp only [D.ok] at h; cases h)
@[simp] theorem isi_tup {t : Ty} : isi S (.tup xs) t = some (decide (t = .tuple)) := rfl
@[simp] theorem isi_lst {t : Ty} : isi S (.lst xs) t = some (decide (t = .list)) := rfl
@[simp] theorem isi_str {t : Ty} : isi S (.str x) t = some (decide (t = .str)) := rfl
@[simp] theorem isi_int {t : Ty} : isi S (.int i) t = some (decide (t = .int)) := rfl
@[simp] theorem isi_bl {t : Ty} : isi S (.bl b) t = some (decide (t = .bool) || decide (t = .int)) := rfl
@[simp] theorem isi_non {t : Ty} : isi S .non t = some false := rfl
@[simp] theorem src_tup : srcOf S (.tup ds) = some ⟨ds, none⟩ := rfl
@[simp] theorem src_lst : srcOf S (.lst ds) = some ⟨ds, none⟩ := rfl
@[simp] theorem stays_none {l : List D} : (Src.mk l none).stays S = true := rfl
@[simp] theorem rng_int : rngSrc (.int i) (.int j) = if rngOk i j then some ⟨rngD i (j - i).toNat, none⟩ else none := rfl
/-! equality with a text, a number -/
@[simp] theorem eqv_str_str : D.eqv (.str x) (.str y) = (x == y) := by simp only [D.eqv]
@[simp] theorem eqv_str_tup : D.eqv (.str x) (.tup xs) = false := by simp only [D.eqv]
@[simp] theorem eqv_tup_str : D.eqv (.tup xs) (.str x) = false := by simp only [D.eqv]
@[simp] theorem eqv_tup_tup : D.eqv (.tup xs) (.tup ys) = D.eqvL xs ys := by simp only [D.eqv]
@[simp] theorem eqv_lst_lst : D.eqv (.lst xs) (.lst ys) = D.eqvL xs ys := by simp only [D.eqv]
@[simp] theorem eqv_int_int : D.eqv (.int i) (.int j) = (i == j) := by simp only [D.eqv]
@[simp] theorem eqvL_nil : D.eqvL [] [] = true := by simp only [D.eqvL]
@[simp] theorem eqvL_cons {c : D} : D.eqvL (d :: xs) (c :: ys) = (D.eqv d c && D.eqvL xs ys) := by simp only [D.eqvL]
@[simp] theorem eqvL_nc : D.eqvL [] (d :: xs) = false := by simp only [D.eqvL]
@[simp] theorem eqvL_cn : D.eqvL (d :: xs) [] = false := by simp only [D.eqvL]
theorem ok_tup : (D.tup ds).ok = D.okL ds := by simp only [D.ok]
theorem ok_lst : (D.lst ds).ok = D.okL ds := by simp only [D.ok]
theorem okL_all : ∀ {ds : List D}, D.okL ds = ds.all D.ok
  | [] => by simp only [D.okL, List.all_nil]
  | d :: ds => by simp only [D.okL, List.all_cons, okL_all (ds := ds)]
@[simp] theorem eqOk_int : eqOk (.int i) (.int j) = true := rfl
theorem eqOk_str (hx : PyData.strOk x = true) (hy : PyData.strOk y = true) : eqOk (.str x) (.str y) = true := by
  simp only [eqOk, D.ok, hx, hy, D.depth, Nat.min_self, Nat.zero_le, decide_true, Bool.and_self]
@[simp] theorem allBl_nil : allBl [] = some [] := rfl
@[simp] theorem allBl_cons : allBl (.bl b :: ds) = (allBl ds).map fun bs => b :: bs := rfl
@[simp] theorem cmp_eq_int : cmpOp .Eq S (.int i) (.int j) = some (i == j) := by
  rw [cmp_eq]
  simp
@[simp] theorem cmp_ne_int : cmpOp .NotEq S (.int i) (.int j) = some (!(i == j)) := by
  rw [cmp_ne]
  simp
/-- it is this text -/
def isS (s : Str) : D → Bool
  | .str x => x == s
  | _ => false
@[simp] theorem isS_str {s : Str} : isS s (.str x) = (x == s) := rfl
@[simp] theorem isS_tup {s : Str} : isS s (.tup xs) = false := rfl
theorem eq_sign {v : D} {s : Str} (hv : v.ok = true) (hs : PyData.strOk s = true) : cmpOp .Eq S v (.str s) = some (isS s v) := by
  rw [cmp_eq, flat_ok hv]
  have : eqOk v (.str s) = true := by
    unfold eqOk
    rw [hv]
    simp [D.ok, hs, D.depth]
  simp only [flat_str, this, if_true]
  cases v <;> simp [D.eqv, isS]
end
end NW
end
section
namespace NW
open PySem

def b_is_from : Ss := .cons (.ret (.and (.cons (.isi (.var 0) .int) (.cons (.not (.isi (.var 0) .bool)) (.cons (.chn .LtE .LtE (.var 1) (.var 0) (.var 2)) (.nil)))))) (.nil)
def f_is_from : FD := ⟨"is_from", ["value", "low", "high"], 3, b_is_from, false⟩
def b_is_pair_word : Ss := .cons (.ife (.or (.cons (.not (.isi (.var 1) .tuple)) (.cons (.cmp .NotEq (.cb .len (.cons (.var 1) (.nil))) (.int 3)) (.cons (.not (.cb .all (.cons (.comp (.isi (.var 2) .str) [("part", 2)] (.name 2) (.e (.var 1)) (.none)) (.nil)))) (.nil))))) (.cons (.ret (.bl false)) (.nil)) (.nil)) (.cons (.ret (.and (.cons (.cmp .In (.idx (.var 1) (.int 0)) (.var 0)) (.cons (.cmp .In (.sl (.var 1) (.some (.int 1)) (.none)) (.cst "PAIRS" (.tup [.tup [.str "a", .str "b"], .tup [.str "b", .str "a"]]))) (.nil))))) (.nil))
def f_is_pair_word : FD := ⟨"is_pair_word", ["words", "value", "part"], 2, b_is_pair_word, false⟩
def b_is_many_word : Ss := .cons (.ife (.or (.cons (.not (.isi (.var 1) .tuple)) (.cons (.cmp .NotEq (.cb .len (.cons (.var 1) (.nil))) (.int 3)) (.cons (.not (.isi (.idx (.var 1) (.int 0)) .str)) (.nil))))) (.cons (.ret (.bl false)) (.nil)) (.nil)) (.cons (.ret (.and (.cons (.cmp .In (.idx (.var 1) (.int 0)) (.var 0)) (.cons (.call 0 (.cons (.idx (.var 1) (.int 1)) (.cons (.int 1) (.cons (.int 3) (.nil))))) (.cons (.isi (.idx (.var 1) (.int 2)) .str) (.cons (.cmp .In (.idx (.var 1) (.int 2)) (.cst "MARKS" (.tup [.str "a", .str "b", .str "both"]))) (.nil))))))) (.nil))
def f_is_many_word : FD := ⟨"is_many_word", ["words", "value"], 2, b_is_many_word, false⟩
def b_is_clause : Ss := .cons (.ret (.or (.cons (.call 1 (.cons (.tup (.cons (.str "all") (.cons (.str "some") (.cons (.str "no") (.cons (.str "allnot") (.nil)))))) (.cons (.var 0) (.nil)))) (.cons (.call 2 (.cons (.tup (.cons (.str "has") (.nil))) (.cons (.var 0) (.nil)))) (.nil))))) (.nil)
def f_is_clause : FD := ⟨"is_clause", ["value"], 1, b_is_clause, false⟩
def b_is_sign : Ss := .cons (.ife (.isi (.var 0) .str) (.cons (.ret (.or (.cons (.cmp .In (.var 0) (.cst "JOINTS" (.tup [.str "and", .str "or", .str "unless", .str "onlyif"]))) (.cons (.cmp .In (.var 0) (.tup (.cons (.str "not") (.cons (.str "(") (.cons (.str ")") (.nil)))))) (.nil))))) (.nil)) (.nil)) (.cons (.ret (.call 3 (.cons (.var 0) (.nil)))) (.nil))
def f_is_sign : FD := ⟨"is_sign", ["value"], 1, b_is_sign, false⟩
def b_row_end : Ss := .cons (.set 1 (.call 6 (.cons (.var 0) (.cons (.var 1) (.nil))))) (.cons (.whl (.and (.cons (.cmp .IsNot (.var 1) (.non)) (.cons (.cmp .Lt (.var 1) (.cb .len (.cons (.var 0) (.nil)))) (.cons (.cmp .In (.idx (.var 0) (.var 1)) (.cst "JOINTS" (.tup [.str "and", .str "or", .str "unless", .str "onlyif"]))) (.nil))))) (.cons (.set 1 (.call 6 (.cons (.var 0) (.cons (.bin .Add (.var 1) (.int 1)) (.nil))))) (.nil))) (.cons (.ret (.var 1)) (.nil)))
def f_row_end : FD := ⟨"row_end", ["signs", "at"], 2, b_row_end, false⟩
def b_part_end : Ss := .cons (.whl (.and (.cons (.cmp .Lt (.var 1) (.cb .len (.cons (.var 0) (.nil)))) (.cons (.cmp .Eq (.idx (.var 0) (.var 1)) (.str "not")) (.nil)))) (.cons (.set 1 (.bin .Add (.var 1) (.int 1))) (.nil))) (.cons (.ife (.cmp .GtE (.var 1) (.cb .len (.cons (.var 0) (.nil)))) (.cons (.ret (.non)) (.nil)) (.nil)) (.cons (.ife (.cmp .Eq (.idx (.var 0) (.var 1)) (.str "(")) (.cons (.set 1 (.call 5 (.cons (.var 0) (.cons (.bin .Add (.var 1) (.int 1)) (.nil))))) (.cons (.ret (.ite (.and (.cons (.cmp .IsNot (.var 1) (.non)) (.cons (.cmp .Lt (.var 1) (.cb .len (.cons (.var 0) (.nil)))) (.cons (.cmp .Eq (.idx (.var 0) (.var 1)) (.str ")")) (.nil))))) (.bin .Add (.var 1) (.int 1)) (.non))) (.nil))) (.nil)) (.cons (.ret (.ite (.isi (.idx (.var 0) (.var 1)) .str) (.non) (.bin .Add (.var 1) (.int 1)))) (.nil))))
def f_part_end : FD := ⟨"part_end", ["signs", "at"], 2, b_part_end, false⟩
def b_has_notice : Ss := .cons (.ife (.or (.cons (.not (.isi (.var 0) .tuple)) (.cons (.not (.chn .LtE .LtE (.int 1) (.cb .len (.cons (.var 0) (.nil))) (.cst "MOST_SIGNS" (.int (16))))) (.cons (.not (.cb .all (.cons (.comp (.call 4 (.cons (.var 1) (.nil))) [("sign", 1)] (.name 1) (.e (.var 0)) (.none)) (.nil)))) (.nil))))) (.cons (.ret (.bl false)) (.nil)) (.nil)) (.cons (.ife (.cmp .Gt (.cb .len (.cons (.comp (.var 1) [("sign", 1)] (.name 1) (.e (.var 0)) (.some (.isi (.var 1) .tuple))) (.nil))) (.cst "MOST_CLAUSES" (.int (4)))) (.cons (.ret (.bl false)) (.nil)) (.nil)) (.cons (.ret (.cmp .Eq (.call 5 (.cons (.var 0) (.cons (.int 0) (.nil)))) (.cb .len (.cons (.var 0) (.nil))))) (.nil)))
def f_has_notice : FD := ⟨"has_notice", ["value", "sign"], 1, b_has_notice, false⟩
def b_is_notice : Ss := .cons (.ret (.call 7 (.cons (.var 0) (.nil)))) (.nil)
def f_is_notice : FD := ⟨"is_notice", ["value"], 1, b_is_notice, false⟩
def b_is_house : Ss := .cons (.ret (.and (.cons (.isi (.var 0) .tuple) (.cons (.cmp .Eq (.cb .len (.cons (.var 0) (.nil))) (.int 4)) (.cons (.cb .all (.cons (.comp (.call 0 (.cons (.var 1) (.cons (.int 0) (.cons (.cst "GREAT" (.int (1000000000000000000000000000000))) (.nil))))) [("count", 1)] (.name 1) (.e (.var 0)) (.none)) (.nil))) (.nil)))))) (.nil)
def f_is_house : FD := ⟨"is_house", ["value", "count"], 1, b_is_house, false⟩
def b_is_atom : Ss := .cons (.ret (.or (.cons (.call 1 (.cons (.tup (.cons (.str "all") (.cons (.str "some") (.cons (.str "no") (.nil))))) (.cons (.var 0) (.nil)))) (.cons (.call 2 (.cons (.tup (.cons (.str "least") (.cons (.str "just") (.nil)))) (.cons (.var 0) (.nil)))) (.nil))))) (.nil)
def f_is_atom : FD := ⟨"is_atom", ["value"], 1, b_is_atom, false⟩
def b_has_formula : Ss := .cons (.ife (.or (.cons (.not (.isi (.var 0) .tuple)) (.cons (.cmp .Lt (.cb .len (.cons (.var 0) (.nil))) (.int 2)) (.cons (.not (.isi (.idx (.var 0) (.int 0)) .str)) (.cons (.cmp .Eq (.var 1) (.int 0)) (.nil)))))) (.cons (.ret (.bl false)) (.nil)) (.nil)) (.cons (.ife (.cmp .Eq (.idx (.var 0) (.int 0)) (.str "not")) (.cons (.ret (.and (.cons (.cmp .Eq (.cb .len (.cons (.var 0) (.nil))) (.int 2)) (.cons (.call 11 (.cons (.idx (.var 0) (.int 1)) (.cons (.bin .Sub (.var 1) (.int 1)) (.nil)))) (.nil))))) (.nil)) (.nil)) (.cons (.ife (.cmp .In (.idx (.var 0) (.int 0)) (.tup (.cons (.str "and") (.cons (.str "or") (.cons (.str "if") (.cons (.str "other") (.nil))))))) (.cons (.ret (.and (.cons (.cmp .Eq (.cb .len (.cons (.var 0) (.nil))) (.int 3)) (.cons (.cb .all (.cons (.comp (.call 11 (.cons (.var 2) (.cons (.bin .Sub (.var 1) (.int 1)) (.nil)))) [("part", 2)] (.name 2) (.e (.sl (.var 0) (.some (.int 1)) (.none))) (.none)) (.nil))) (.nil))))) (.nil)) (.nil)) (.cons (.ret (.call 10 (.cons (.var 0) (.nil)))) (.nil))))
def f_has_formula : FD := ⟨"has_formula", ["value", "deep", "part"], 2, b_has_formula, false⟩
def b_is_formula : Ss := .cons (.ret (.call 11 (.cons (.var 0) (.cons (.cst "MOST_DEEP" (.int (10))) (.nil))))) (.nil)
def f_is_formula : FD := ⟨"is_formula", ["value"], 1, b_is_formula, false⟩
def b__law_source : Ss := .cons (.set 2 (.ite (.cmp .Lt (.var 1) (.cb .len (.cons (.var 0) (.nil)))) (.cb .abs (.cons (.cb .int (.cons (.idx (.var 0) (.var 1)) (.nil))) (.nil))) (.bin .Add (.bin .Mult (.int 101) (.var 1)) (.int 47)))) (.cons (.ret (.nlst (.cons (.ite (.cmp .Gt (.var 2) (.bin .Pow (.int 10) (.int 17))) (.var 2) (.int 0)) (.cons (.bin .Mod (.cb .int (.cons (.bin .Add (.bin .Add (.bin .Mult (.var 2) (.int 16807)) (.bin .Mult (.int 10009) (.var 1))) (.int 71)) (.nil))) (.int 2147483237)) (.nil))))) (.nil))
def f__law_source : FD := ⟨"_law_source", ["_law_script", "_law_k", "_law_cell"], 2, b__law_source, false⟩
def b__law_draw : Ss := .cons (.ife (.cmp .Gt (.idx (.var 0) (.int 0)) (.int 0)) (.cons (.set 3 (.bin .Mod (.cb .int (.cons (.idx (.var 0) (.int 0)) (.nil))) (.var 1))) (.cons (.setI (.var 0) (.int 0) (.bin .FloorDiv (.idx (.var 0) (.int 0)) (.var 1))) (.cons (.ret (.var 3)) (.nil)))) (.nil)) (.cons (.setI (.var 0) (.int 1) (.bin .Mod (.cb .int (.cons (.bin .Add (.bin .Mult (.idx (.var 0) (.int 1)) (.int 48271)) (.int 83)) (.nil))) (.int 2147483237))) (.cons (.set 2 (.bin .Mod (.cb .int (.cons (.bin .Mult (.idx (.var 0) (.int 1)) (.bin .Add (.bin .FloorDiv (.idx (.var 0) (.int 1)) (.int 41)) (.int 26))) (.nil))) (.int 2147483179))) (.cons (.ret (.bin .Mod (.cb .int (.cons (.bin .FloorDiv (.var 2) (.int 32)) (.nil))) (.var 1))) (.nil))))
def f__law_draw : FD := ⟨"_law_draw", ["_law_source_here", "_law_many", "_law_wide", "_law_rest"], 2, b__law_draw, false⟩
def b__law_choice : Ss := .cons (.ret (.idx (.var 1) (.call 14 (.cons (.var 0) (.cons (.cb .len (.cons (.var 1) (.nil))) (.nil)))))) (.nil)
def f__law_choice : FD := ⟨"_law_choice", ["_law_source_here", "_law_some"], 2, b__law_choice, false⟩
def b__law_from : Ss := .cons (.ret (.and (.cons (.isi (.var 0) .int) (.cons (.not (.isi (.var 0) .bool)) (.cons (.chn .LtE .LtE (.var 1) (.var 0) (.var 2)) (.nil)))))) (.nil)
def f__law_from : FD := ⟨"_law_from", ["_law_value", "_law_low", "_law_high"], 3, b__law_from, false⟩
def b__law_clause : Ss := .cons (.set 1 (.call 15 (.cons (.var 0) (.cons (.lst (.cons (.tup (.cons (.str "a") (.cons (.str "b") (.nil)))) (.cons (.tup (.cons (.str "b") (.cons (.str "a") (.nil)))) (.nil)))) (.nil))))) (.cons (.ife (.cmp .Lt (.call 14 (.cons (.var 0) (.cons (.int 5) (.nil)))) (.int 2)) (.cons (.ret (.tup (.cons (.str "has") (.cons (.bin .Add (.int 1) (.call 14 (.cons (.var 0) (.cons (.int 3) (.nil))))) (.cons (.call 15 (.cons (.var 0) (.cons (.lst (.cons (.str "a") (.cons (.str "b") (.cons (.str "both") (.nil))))) (.nil)))) (.nil)))))) (.nil)) (.nil)) (.cons (.ret (.bin .Add (.tup (.cons (.call 15 (.cons (.var 0) (.cons (.lst (.cons (.str "all") (.cons (.str "some") (.cons (.str "no") (.cons (.str "allnot") (.nil)))))) (.nil)))) (.nil))) (.var 1))) (.nil)))
def f__law_clause : FD := ⟨"_law_clause", ["_law_source_here", "_law_pair"], 1, b__law_clause, false⟩
def b__law_notice : Ss := .cons (.set 2 (.nlst (.nil))) (.cons (.for_ (.name 3) (.rng (.bin .Add (.int 1) (.call 14 (.cons (.var 0) (.cons (.var 1) (.nil)))))) (.cons (.set 5 (.tup (.cons (.call 17 (.cons (.var 0) (.nil))) (.nil)))) (.cons (.ife (.cmp .Eq (.call 14 (.cons (.var 0) (.cons (.int 4) (.nil)))) (.int 0)) (.cons (.set 5 (.bin .Add (.tup (.cons (.str "not") (.nil))) (.var 5))) (.nil)) (.nil)) (.cons (.app (.var 2) (.var 5)) (.nil))))) (.cons (.ife (.and (.cons (.cmp .Gt (.cb .len (.cons (.var 2) (.nil))) (.int 1)) (.cons (.cmp .Eq (.call 14 (.cons (.var 0) (.cons (.int 3) (.nil)))) (.int 0)) (.nil)))) (.cons (.set 6 (.call 14 (.cons (.var 0) (.cons (.bin .Sub (.cb .len (.cons (.var 2) (.nil))) (.int 1)) (.nil))))) (.cons (.set 7 (.call 15 (.cons (.var 0) (.cons (.lst (.cons (.str "and") (.cons (.str "or") (.cons (.str "unless") (.cons (.str "onlyif") (.nil)))))) (.nil))))) (.cons (.set 8 (.bin .Add (.bin .Add (.bin .Add (.bin .Add (.tup (.cons (.str "(") (.nil))) (.idx (.var 2) (.var 6))) (.tup (.cons (.var 7) (.nil)))) (.idx (.var 2) (.bin .Add (.var 6) (.int 1)))) (.tup (.cons (.str ")") (.nil))))) (.cons (.set 2 (.bin .Add (.bin .Add (.sl (.var 2) (.none) (.some (.var 6))) (.lst (.cons (.ite (.cmp .Eq (.call 14 (.cons (.var 0) (.cons (.int 3) (.nil)))) (.int 0)) (.bin .Add (.tup (.cons (.str "not") (.nil))) (.var 8)) (.var 8)) (.nil)))) (.sl (.var 2) (.some (.bin .Add (.var 6) (.int 2))) (.none)))) (.nil))))) (.nil)) (.cons (.set 4 (.idx (.var 2) (.int 0))) (.cons (.for_ (.name 5) (.e (.sl (.var 2) (.some (.int 1)) (.none))) (.cons (.set 4 (.bin .Add (.bin .Add (.var 4) (.tup (.cons (.call 15 (.cons (.var 0) (.cons (.lst (.cons (.str "and") (.cons (.str "and") (.cons (.str "or") (.cons (.str "or") (.cons (.str "unless") (.cons (.str "onlyif") (.nil)))))))) (.nil)))) (.nil)))) (.var 5))) (.nil))) (.cons (.ret (.var 4)) (.nil))))))
def f__law_notice : FD := ⟨"_law_notice", ["_law_source_here", "_law_most", "_law_parts", "_law_turn", "_law_found", "_law_part", "_law_at", "_law_joint", "_law_whole"], 2, b__law_notice, false⟩
def b__law_formula : Ss := .cons (.set 2 (.call 14 (.cons (.var 0) (.cons (.int 7) (.nil))))) (.cons (.ife (.and (.cons (.cmp .Gt (.var 1) (.int 1)) (.cons (.cmp .Gt (.var 2) (.int 2)) (.nil)))) (.cons (.ife (.cmp .Eq (.var 2) (.int 3)) (.cons (.ret (.tup (.cons (.str "not") (.cons (.call 19 (.cons (.var 0) (.cons (.bin .Sub (.var 1) (.int 1)) (.nil)))) (.nil))))) (.nil)) (.nil)) (.cons (.set 3 (.call 15 (.cons (.var 0) (.cons (.lst (.cons (.str "and") (.cons (.str "or") (.cons (.str "if") (.cons (.str "other") (.nil)))))) (.nil))))) (.cons (.set 4 (.call 19 (.cons (.var 0) (.cons (.bin .Sub (.var 1) (.int 1)) (.nil))))) (.cons (.ret (.tup (.cons (.var 3) (.cons (.var 4) (.cons (.call 19 (.cons (.var 0) (.cons (.bin .Sub (.var 1) (.int 1)) (.nil)))) (.nil)))))) (.nil))))) (.nil)) (.cons (.ife (.cmp .Eq (.bin .Mod (.var 2) (.int 2)) (.int 0)) (.cons (.set 3 (.call 15 (.cons (.var 0) (.cons (.lst (.cons (.str "least") (.cons (.str "just") (.nil)))) (.nil))))) (.cons (.ret (.tup (.cons (.var 3) (.cons (.bin .Add (.int 1) (.call 14 (.cons (.var 0) (.cons (.int 3) (.nil))))) (.cons (.call 15 (.cons (.var 0) (.cons (.lst (.cons (.str "a") (.cons (.str "b") (.cons (.str "both") (.nil))))) (.nil)))) (.nil)))))) (.nil))) (.nil)) (.cons (.ret (.bin .Add (.tup (.cons (.call 15 (.cons (.var 0) (.cons (.lst (.cons (.str "all") (.cons (.str "some") (.cons (.str "no") (.nil))))) (.nil)))) (.nil))) (.call 15 (.cons (.var 0) (.cons (.lst (.cons (.tup (.cons (.str "a") (.cons (.str "b") (.nil)))) (.cons (.tup (.cons (.str "b") (.cons (.str "a") (.nil)))) (.nil)))) (.nil)))))) (.nil))))
def f__law_formula : FD := ⟨"_law_formula", ["_law_source_here", "_law_deep", "_law_way", "_law_word", "_law_one"], 2, b__law_formula, false⟩
def b__law_is_triple : Ss := .cons (.ife (.or (.cons (.not (.isi (.var 0) .tuple)) (.cons (.cmp .NotEq (.cb .len (.cons (.var 0) (.nil))) (.int 3)) (.cons (.not (.isi (.idx (.var 0) (.int 0)) .str)) (.nil))))) (.cons (.ret (.bl false)) (.nil)) (.nil)) (.cons (.ife (.cmp .In (.idx (.var 0) (.int 0)) (.var 2)) (.cons (.ret (.and (.cons (.call 16 (.cons (.idx (.var 0) (.int 1)) (.cons (.int 1) (.cons (.int 3) (.nil))))) (.cons (.isi (.idx (.var 0) (.int 2)) .str) (.cons (.cmp .In (.idx (.var 0) (.int 2)) (.lst (.cons (.str "a") (.cons (.str "b") (.cons (.str "both") (.nil)))))) (.nil)))))) (.nil)) (.nil)) (.cons (.ret (.and (.cons (.cmp .In (.idx (.var 0) (.int 0)) (.var 1)) (.cons (.cmp .In (.cb .list (.cons (.sl (.var 0) (.some (.int 1)) (.none)) (.nil))) (.lst (.cons (.lst (.cons (.str "a") (.cons (.str "b") (.nil)))) (.cons (.lst (.cons (.str "b") (.cons (.str "a") (.nil)))) (.nil))))) (.nil))))) (.nil)))
def f__law_is_triple : FD := ⟨"_law_is_triple", ["_law_value", "_law_words", "_law_counted"], 3, b__law_is_triple, false⟩
def b__law_is_row : Ss := .cons (.set 1 (.comp (.ite (.isi (.var 4) .tuple) (.str "x") (.var 4)) [("_law_sign", 4)] (.name 4) (.e (.var 0)) (.none))) (.cons (.set 2 (.non)) (.cons (.whl (.cmp .NotEq (.var 2) (.var 1)) (.cons (.set 2 (.cb .list (.cons (.var 1) (.nil)))) (.cons (.for_ (.name 3) (.rng (.cb .len (.cons (.var 1) (.nil)))) (.cons (.ife (.cmp .Eq (.sl (.var 1) (.some (.var 3)) (.some (.bin .Add (.var 3) (.int 2)))) (.lst (.cons (.str "not") (.cons (.str "x") (.nil))))) (.cons (.set 1 (.bin .Add (.bin .Add (.sl (.var 1) (.none) (.some (.var 3))) (.lst (.cons (.str "x") (.nil)))) (.sl (.var 1) (.some (.bin .Add (.var 3) (.int 2))) (.none)))) (.nil)) (.nil)) (.cons (.ife (.cmp .Eq (.sl (.var 1) (.some (.var 3)) (.some (.bin .Add (.var 3) (.int 3)))) (.lst (.cons (.str "(") (.cons (.str "x") (.cons (.str ")") (.nil)))))) (.cons (.set 1 (.bin .Add (.bin .Add (.sl (.var 1) (.none) (.some (.var 3))) (.lst (.cons (.str "x") (.nil)))) (.sl (.var 1) (.some (.bin .Add (.var 3) (.int 3))) (.none)))) (.nil)) (.nil)) (.cons (.ife (.and (.cons (.cmp .Eq (.sl (.var 1) (.some (.var 3)) (.some (.bin .Add (.var 3) (.int 1)))) (.lst (.cons (.str "x") (.nil)))) (.cons (.cmp .Eq (.sl (.var 1) (.some (.bin .Add (.var 3) (.int 2))) (.some (.bin .Add (.var 3) (.int 3)))) (.lst (.cons (.str "x") (.nil)))) (.cons (.cmp .In (.idx (.var 1) (.bin .Add (.var 3) (.int 1))) (.call 22 (.nil))) (.nil))))) (.cons (.set 1 (.bin .Add (.bin .Add (.sl (.var 1) (.none) (.some (.var 3))) (.lst (.cons (.str "x") (.nil)))) (.sl (.var 1) (.some (.bin .Add (.var 3) (.int 3))) (.none)))) (.nil)) (.nil)) (.nil))))) (.nil)))) (.cons (.ret (.cmp .Eq (.var 1) (.lst (.cons (.str "x") (.nil))))) (.nil))))
def f__law_is_row : FD := ⟨"_law_is_row", ["_law_signs", "_law_row", "_law_old", "_law_at", "_law_sign"], 1, b__law_is_row, false⟩
def b__law_joints : Ss := .cons (.ret (.lst (.cons (.str "and") (.cons (.str "or") (.cons (.str "unless") (.cons (.str "onlyif") (.nil))))))) (.nil)
def f__law_joints : FD := ⟨"_law_joints", [], 0, b__law_joints, false⟩
def b__law_is_notice : Ss := .cons (.ife (.or (.cons (.not (.isi (.var 0) .tuple)) (.cons (.not (.chn .LtE .LtE (.int 1) (.cb .len (.cons (.var 0) (.nil))) (.int 16))) (.nil)))) (.cons (.ret (.bl false)) (.nil)) (.nil)) (.cons (.set 1 (.int 0)) (.cons (.for_ (.name 2) (.e (.var 0)) (.cons (.ife (.isi (.var 2) .str) (.cons (.ife (.cmp .NotIn (.var 2) (.bin .Add (.call 22 (.nil)) (.lst (.cons (.str "not") (.cons (.str "(") (.cons (.str ")") (.nil))))))) (.cons (.ret (.bl false)) (.nil)) (.nil)) (.nil)) (.cons (.ife (.not (.call 20 (.cons (.var 2) (.cons (.lst (.cons (.str "all") (.cons (.str "some") (.cons (.str "no") (.cons (.str "allnot") (.nil)))))) (.cons (.lst (.cons (.str "has") (.nil))) (.nil)))))) (.cons (.ret (.bl false)) (.nil)) (.cons (.set 1 (.bin .Add (.var 1) (.int 1))) (.nil))) (.nil))) (.nil))) (.cons (.ret (.and (.cons (.cmp .LtE (.var 1) (.int 4)) (.cons (.call 21 (.cons (.var 0) (.nil))) (.nil))))) (.nil))))
def f__law_is_notice : FD := ⟨"_law_is_notice", ["_law_value", "_law_clauses", "_law_sign"], 1, b__law_is_notice, false⟩
def b__law_is_house : Ss := .cons (.ife (.or (.cons (.not (.isi (.var 0) .tuple)) (.cons (.cmp .NotEq (.cb .len (.cons (.var 0) (.nil))) (.int 4)) (.nil)))) (.cons (.ret (.bl false)) (.nil)) (.nil)) (.cons (.ret (.cmp .Eq (.comp (.var 1) [("_law_count", 1)] (.name 1) (.e (.var 0)) (.some (.not (.call 16 (.cons (.var 1) (.cons (.int 0) (.cons (.bin .Pow (.int 10) (.int 30)) (.nil)))))))) (.lst (.nil)))) (.nil))
def f__law_is_house : FD := ⟨"_law_is_house", ["_law_value", "_law_count"], 1, b__law_is_house, false⟩
def b__law_is_formula : Ss := .cons (.ife (.or (.cons (.not (.isi (.var 0) .tuple)) (.cons (.cmp .Eq (.var 0) (.tup (.nil))) (.cons (.not (.isi (.idx (.var 0) (.int 0)) .str)) (.cons (.cmp .Eq (.var 1) (.int 0)) (.nil)))))) (.cons (.ret (.bl false)) (.nil)) (.nil)) (.cons (.ife (.cmp .In (.idx (.var 0) (.int 0)) (.lst (.cons (.str "not") (.cons (.str "and") (.cons (.str "or") (.cons (.str "if") (.cons (.str "other") (.nil)))))))) (.cons (.ife (.cmp .NotEq (.cb .len (.cons (.var 0) (.nil))) (.ite (.cmp .Eq (.idx (.var 0) (.int 0)) (.str "not")) (.int 2) (.int 3))) (.cons (.ret (.bl false)) (.nil)) (.nil)) (.cons (.ret (.cmp .Eq (.comp (.var 2) [("_law_part", 2)] (.name 2) (.e (.sl (.var 0) (.some (.int 1)) (.none))) (.some (.not (.call 25 (.cons (.var 2) (.cons (.bin .Sub (.var 1) (.int 1)) (.nil))))))) (.lst (.nil)))) (.nil))) (.nil)) (.cons (.ret (.call 20 (.cons (.var 0) (.cons (.lst (.cons (.str "all") (.cons (.str "some") (.cons (.str "no") (.nil))))) (.cons (.lst (.cons (.str "least") (.cons (.str "just") (.nil)))) (.nil)))))) (.nil)))
def f__law_is_formula : FD := ⟨"_law_is_formula", ["_law_value", "_law_deep", "_law_part"], 2, b__law_is_formula, false⟩
def b__law_bent : Ss := .cons (.set 2 (.call 14 (.cons (.var 0) (.cons (.int 8) (.nil))))) (.cons (.ife (.and (.cons (.isi (.var 1) .tuple) (.cons (.cmp .NotEq (.var 1) (.tup (.nil))) (.cons (.cmp .Gt (.var 2) (.int 0)) (.nil))))) (.cons (.set 4 (.call 14 (.cons (.var 0) (.cons (.cb .len (.cons (.var 1) (.nil))) (.nil))))) (.cons (.ife (.cmp .Eq (.var 2) (.int 1)) (.cons (.ret (.bin .Add (.sl (.var 1) (.none) (.some (.var 4))) (.sl (.var 1) (.some (.bin .Add (.var 4) (.int 1))) (.none)))) (.nil)) (.nil)) (.cons (.ife (.cmp .Eq (.var 2) (.int 2)) (.cons (.ret (.bin .Add (.sl (.var 1) (.none) (.some (.bin .Add (.var 4) (.int 1)))) (.sl (.var 1) (.some (.var 4)) (.none)))) (.nil)) (.nil)) (.cons (.ife (.cmp .Eq (.var 2) (.int 3)) (.cons (.set 5 (.call 15 (.cons (.var 0) (.cons (.lst (.cons (.str "not") (.cons (.str "and") (.cons (.str "(") (.cons (.str ")") (.cons (.tup (.cons (.str "all") (.cons (.str "a") (.cons (.str "b") (.nil))))) (.nil))))))) (.nil))))) (.cons (.ret (.bin .Add (.bin .Add (.sl (.var 1) (.none) (.some (.var 4))) (.tup (.cons (.var 5) (.nil)))) (.sl (.var 1) (.some (.var 4)) (.none)))) (.nil))) (.nil)) (.cons (.ret (.bin .Add (.bin .Add (.sl (.var 1) (.none) (.some (.var 4))) (.tup (.cons (.call 26 (.cons (.var 0) (.cons (.idx (.var 1) (.var 4)) (.nil)))) (.nil)))) (.sl (.var 1) (.some (.bin .Add (.var 4) (.int 1))) (.none)))) (.nil)))))) (.nil)) (.cons (.set 3 (.lst (.cons (.non) (.cons (.bl true) (.cons (.int 0) (.cons (.int 1) (.cons (.int 3) (.cons (.int 4) (.cons (.neg (.int 1)) (.cons (.bin .Pow (.int 10) (.int 30)) (.cons (.bin .Add (.bin .Pow (.int 10) (.int 30)) (.int 1)) (.cons (.str "") (.cons (.str "a") (.cons (.str "both") (.cons (.str "and") (.cons (.str "or") (.cons (.str "not") (.nil)))))))))))))))))) (.cons (.set 3 (.bin .Add (.var 3) (.lst (.cons (.str "(") (.cons (.str ")") (.cons (.tup (.nil)) (.cons (.lst (.nil)) (.nil)))))))) (.cons (.set 3 (.bin .Add (.var 3) (.lst (.cons (.str "has") (.cons (.str "least") (.cons (.tup (.cons (.str "no") (.cons (.str "b") (.cons (.str "a") (.nil))))) (.cons (.tup (.cons (.str "has") (.cons (.int 2) (.cons (.str "a") (.nil))))) (.cons (.tup (.cons (.str "just") (.cons (.int 2) (.cons (.str "a") (.nil))))) (.cons (.str "if") (.nil)))))))))) (.cons (.ret (.call 15 (.cons (.var 0) (.cons (.var 3) (.nil))))) (.nil))))))
def f__law_bent : FD := ⟨"_law_bent", ["_law_source_here", "_law_value", "_law_way", "_law_some", "_law_at", "_law_sign"], 2, b__law_bent, false⟩
def b__law_told : Ss := .cons (.set 1 (.tup (.cons (.call 23 (.cons (.var 0) (.nil))) (.cons (.call 24 (.cons (.var 0) (.nil))) (.cons (.call 25 (.cons (.var 0) (.cons (.int 10) (.nil)))) (.nil)))))) (.cons (.for_ (.name 2) (.rng (.int 2)) (.cons (.set 3 (.tup (.cons (.call 8 (.cons (.var 0) (.nil))) (.cons (.call 9 (.cons (.var 0) (.nil))) (.cons (.call 12 (.cons (.var 0) (.nil))) (.nil)))))) (.cons (.ife (.or (.cons (.cmp .NotEq (.var 3) (.var 1)) (.cons (.cmp .NotEq (.comp (.var 4) [("_law_truth", 4)] (.name 4) (.e (.var 3)) (.some (.not (.isi (.var 4) .bool)))) (.lst (.nil))) (.nil)))) (.cons (.ret (.bl false)) (.nil)) (.nil)) (.nil)))) (.cons (.ret (.bl true)) (.nil)))
def f__law_told : FD := ⟨"_law_told", ["_law_value", "_law_due", "_law_turn", "_law_shown", "_law_truth"], 1, b__law_told, false⟩
def b_law_k01 : Ss := .cons (.for_ (.name 1) (.rng (.bin .Add (.int 1) (.cb .min (.cons (.cb .len (.cons (.var 0) (.nil))) (.cons (.int 10) (.nil)))))) (.cons (.set 7 (.call 13 (.cons (.var 0) (.cons (.var 1) (.nil))))) (.cons (.par [10, 11] (.cons (.call 18 (.cons (.var 7) (.cons (.int 4) (.nil)))) (.cons (.call 19 (.cons (.var 7) (.cons (.int 4) (.nil)))) (.nil)))) (.cons (.set 8 (.cb .tuple (.cons (.comp (.call 14 (.cons (.var 7) (.cons (.int 10) (.nil)))) [("_law_sort", 13)] (.name 13) (.rng (.int 4)) (.none)) (.nil)))) (.cons (.ife (.or (.cons (.not (.call 8 (.cons (.var 10) (.nil)))) (.cons (.not (.call 12 (.cons (.var 11) (.nil)))) (.cons (.not (.call 9 (.cons (.var 8) (.nil)))) (.nil))))) (.cons (.ret (.bl false)) (.nil)) (.nil)) (.cons (.for_ (.name 9) (.e (.lst (.cons (.var 10) (.cons (.var 11) (.cons (.var 8) (.nil)))))) (.cons (.set 12 (.var 9)) (.cons (.for_ (.name 6) (.rng (.int 10)) (.cons (.ife (.not (.call 27 (.cons (.var 12) (.nil)))) (.cons (.ret (.bl false)) (.nil)) (.nil)) (.cons (.set 12 (.call 26 (.cons (.var 7) (.cons (.ite (.cmp .Eq (.bin .Mod (.var 6) (.int 4)) (.int 0)) (.var 9) (.var 12)) (.nil))))) (.nil)))) (.nil)))) (.cons (.ife (.or (.cons (.not (.call 27 (.cons (.cb .list (.cons (.var 10) (.nil))) (.nil)))) (.cons (.not (.call 27 (.cons (.cb .list (.cons (.var 11) (.nil))) (.nil)))) (.nil)))) (.cons (.ret (.bl false)) (.nil)) (.nil)) (.nil)))))))) (.cons (.set 2 (.tup (.cons (.str "all") (.cons (.str "a") (.cons (.str "b") (.nil)))))) (.cons (.set 3 (.lst (.cons (.tup (.cons (.var 2) (.nil))) (.cons (.tup (.cons (.str "not") (.cons (.var 2) (.nil)))) (.cons (.tup (.cons (.var 2) (.cons (.str "and") (.cons (.var 2) (.nil))))) (.cons (.tup (.cons (.str "(") (.cons (.var 2) (.cons (.str ")") (.nil))))) (.nil))))))) (.cons (.set 3 (.bin .Add (.var 3) (.lst (.cons (.tup (.cons (.str "not") (.cons (.str "(") (.cons (.str "not") (.cons (.var 2) (.cons (.str "or") (.cons (.var 2) (.cons (.str ")") (.nil))))))))) (.cons (.tup (.cons (.var 2) (.cons (.var 2) (.nil)))) (.nil)))))) (.cons (.set 3 (.bin .Add (.var 3) (.lst (.cons (.tup (.cons (.str "not") (.nil))) (.cons (.tup (.nil)) (.cons (.tup (.cons (.str "(") (.cons (.var 2) (.nil)))) (.cons (.tup (.cons (.var 2) (.cons (.str ")") (.nil)))) (.cons (.tup (.cons (.str "and") (.cons (.var 2) (.nil)))) (.cons (.tup (.cons (.var 2) (.cons (.str "and") (.nil)))) (.cons (.tup (.cons (.str "(") (.cons (.str ")") (.nil)))) (.cons (.tup (.cons (.var 2) (.cons (.str "not") (.cons (.var 2) (.nil))))) (.nil)))))))))))) (.cons (.set 3 (.bin .Add (.var 3) (.lst (.cons (.bin .Add (.bin .Mult (.tup (.cons (.str "not") (.nil))) (.int 15)) (.tup (.cons (.var 2) (.nil)))) (.cons (.bin .Add (.bin .Mult (.tup (.cons (.str "not") (.nil))) (.int 16)) (.tup (.cons (.var 2) (.nil)))) (.cons (.bin .Add (.bin .Mult (.tup (.cons (.var 2) (.cons (.str "or") (.nil)))) (.int 3)) (.tup (.cons (.var 2) (.nil)))) (.cons (.bin .Add (.bin .Mult (.tup (.cons (.var 2) (.cons (.str "or") (.nil)))) (.int 4)) (.tup (.cons (.var 2) (.nil)))) (.nil)))))))) (.cons (.set 4 (.bin .Add (.bin .Add (.bin .Mult (.lst (.cons (.bl true) (.nil))) (.int 5)) (.bin .Mult (.lst (.cons (.bl false) (.nil))) (.int 9))) (.lst (.cons (.bl true) (.cons (.bl false) (.cons (.bl true) (.cons (.bl false) (.nil)))))))) (.cons (.ife (.or (.cons (.cmp .NotEq (.comp (.call 8 (.cons (.var 12) (.nil))) [("_law_value", 12)] (.name 12) (.e (.var 3)) (.none)) (.var 4)) (.cons (.call 8 (.cons (.tup (.cons (.tup (.cons (.str "has") (.cons (.int 0) (.cons (.str "a") (.nil))))) (.nil))) (.nil))) (.nil)))) (.cons (.ret (.bl false)) (.nil)) (.nil)) (.cons (.ife (.call 8 (.cons (.tup (.cons (.tup (.cons (.str "all") (.cons (.str "a") (.cons (.str "a") (.nil))))) (.nil))) (.nil))) (.cons (.ret (.bl false)) (.nil)) (.nil)) (.cons (.set 5 (.nlst (.cons (.var 2) (.nil)))) (.cons (.for_ (.name 6) (.rng (.int 10)) (.cons (.app (.var 5) (.tup (.cons (.str "not") (.cons (.idx (.var 5) (.neg (.int 1))) (.nil))))) (.nil))) (.cons (.ife (.cmp .NotEq (.comp (.call 12 (.cons (.var 12) (.nil))) [("_law_value", 12)] (.name 12) (.e (.var 5)) (.none)) (.bin .Add (.bin .Mult (.lst (.cons (.bl true) (.nil))) (.int 10)) (.lst (.cons (.bl false) (.nil))))) (.cons (.ret (.bl false)) (.nil)) (.nil)) (.cons (.set 3 (.lst (.cons (.tup (.cons (.int 0) (.cons (.int 0) (.cons (.int 0) (.cons (.int 0) (.nil)))))) (.cons (.bin .Mult (.tup (.cons (.bin .Pow (.int 10) (.int 30)) (.nil))) (.int 4)) (.cons (.tup (.cons (.bin .Add (.bin .Pow (.int 10) (.int 30)) (.int 1)) (.cons (.int 0) (.cons (.int 0) (.cons (.int 0) (.nil)))))) (.cons (.tup (.cons (.int 0) (.cons (.int 0) (.cons (.int 0) (.nil))))) (.cons (.tup (.cons (.bl true) (.cons (.int 0) (.cons (.int 0) (.cons (.int 0) (.nil)))))) (.cons (.tup (.cons (.int 0) (.cons (.int 0) (.cons (.int 0) (.cons (.neg (.int 1)) (.nil)))))) (.cons (.bin .Mult (.lst (.cons (.int 0) (.nil))) (.int 4)) (.nil)))))))))) (.cons (.ret (.cmp .Eq (.comp (.call 9 (.cons (.var 12) (.nil))) [("_law_value", 12)] (.name 12) (.e (.var 3)) (.none)) (.lst (.cons (.bl true) (.cons (.bl true) (.cons (.bl false) (.cons (.bl false) (.cons (.bl false) (.cons (.bl false) (.cons (.bl false) (.nil))))))))))) (.nil))))))))))))))
def f_law_k01 : FD := ⟨"law", ["_law_script", "_law_k", "_law_one", "_law_rows", "_law_due", "_law_deep", "_law_turn", "_law_source_here", "_law_house", "_law_good", "_law_notice_here", "_law_formula_here", "_law_value", "_law_sort"], 1, b_law_k01, false⟩
end NW
end
section
namespace K01
open PySem NW

def pg : Pg := ⟨[(0, f_is_from), (1, f_is_pair_word), (2, f_is_many_word), (3, f_is_clause), (4, f_is_sign), (5, f_row_end), (6, f_part_end), (7, f_has_notice), (8, f_is_notice), (9, f_is_house), (10, f_is_atom), (11, f_has_formula), (12, f_is_formula), (13, f__law_source), (14, f__law_draw), (15, f__law_choice), (16, f__law_from), (17, f__law_clause), (18, f__law_notice), (19, f__law_formula), (20, f__law_is_triple), (21, f__law_is_row), (22, f__law_joints), (23, f__law_is_notice), (24, f__law_is_house), (25, f__law_is_formula), (26, f__law_bent), (27, f__law_told), (28, f_law_k01)], [8, 9, 10, 11, 12, 13, 14, 15, 16, 17, 18, 19, 20, 22, 23, 24, 25, 26, 27, 28, 29, 30, 31, 32, 33, 34, 35, 36, 37], [("GREAT", .int (1000000000000000000000000000000)), ("PAIRS", .tup [.tup [.str "a", .str "b"], .tup [.str "b", .str "a"]]), ("MARKS", .tup [.str "a", .str "b", .str "both"]), ("JOINTS", .tup [.str "and", .str "or", .str "unless", .str "onlyif"]), ("MOST_SIGNS", .int (16)), ("MOST_CLAUSES", .int (4)), ("MOST_DEEP", .int (10))]⟩
abbrev Pr : Program := PySem.Challenge.pw_noticeways_k01_notices_and_houses_recogn
theorem ok : okDefs pg.T pg.fds (pg.defs Pr) = true := by decide +kernel
theorem is_0 : Is pg.T.fn 0 f_is_from := ⟨_, rfl, rfl, rfl, rfl, rfl⟩
theorem is_1 : Is pg.T.fn 1 f_is_pair_word := ⟨_, rfl, rfl, rfl, rfl, rfl⟩
theorem is_2 : Is pg.T.fn 2 f_is_many_word := ⟨_, rfl, rfl, rfl, rfl, rfl⟩
theorem is_3 : Is pg.T.fn 3 f_is_clause := ⟨_, rfl, rfl, rfl, rfl, rfl⟩
theorem is_4 : Is pg.T.fn 4 f_is_sign := ⟨_, rfl, rfl, rfl, rfl, rfl⟩
theorem is_5 : Is pg.T.fn 5 f_row_end := ⟨_, rfl, rfl, rfl, rfl, rfl⟩
theorem is_6 : Is pg.T.fn 6 f_part_end := ⟨_, rfl, rfl, rfl, rfl, rfl⟩
theorem is_7 : Is pg.T.fn 7 f_has_notice := ⟨_, rfl, rfl, rfl, rfl, rfl⟩
theorem is_8 : Is pg.T.fn 8 f_is_notice := ⟨_, rfl, rfl, rfl, rfl, rfl⟩
theorem is_9 : Is pg.T.fn 9 f_is_house := ⟨_, rfl, rfl, rfl, rfl, rfl⟩
theorem is_10 : Is pg.T.fn 10 f_is_atom := ⟨_, rfl, rfl, rfl, rfl, rfl⟩
theorem is_11 : Is pg.T.fn 11 f_has_formula := ⟨_, rfl, rfl, rfl, rfl, rfl⟩
theorem is_12 : Is pg.T.fn 12 f_is_formula := ⟨_, rfl, rfl, rfl, rfl, rfl⟩
theorem is_13 : Is pg.T.fn 13 f__law_source := ⟨_, rfl, rfl, rfl, rfl, rfl⟩
theorem is_14 : Is pg.T.fn 14 f__law_draw := ⟨_, rfl, rfl, rfl, rfl, rfl⟩
theorem is_15 : Is pg.T.fn 15 f__law_choice := ⟨_, rfl, rfl, rfl, rfl, rfl⟩
theorem is_16 : Is pg.T.fn 16 f__law_from := ⟨_, rfl, rfl, rfl, rfl, rfl⟩
theorem is_17 : Is pg.T.fn 17 f__law_clause := ⟨_, rfl, rfl, rfl, rfl, rfl⟩
theorem is_18 : Is pg.T.fn 18 f__law_notice := ⟨_, rfl, rfl, rfl, rfl, rfl⟩
theorem is_19 : Is pg.T.fn 19 f__law_formula := ⟨_, rfl, rfl, rfl, rfl, rfl⟩
theorem is_20 : Is pg.T.fn 20 f__law_is_triple := ⟨_, rfl, rfl, rfl, rfl, rfl⟩
theorem is_21 : Is pg.T.fn 21 f__law_is_row := ⟨_, rfl, rfl, rfl, rfl, rfl⟩
theorem is_22 : Is pg.T.fn 22 f__law_joints := ⟨_, rfl, rfl, rfl, rfl, rfl⟩
theorem is_23 : Is pg.T.fn 23 f__law_is_notice := ⟨_, rfl, rfl, rfl, rfl, rfl⟩
theorem is_24 : Is pg.T.fn 24 f__law_is_house := ⟨_, rfl, rfl, rfl, rfl, rfl⟩
theorem is_25 : Is pg.T.fn 25 f__law_is_formula := ⟨_, rfl, rfl, rfl, rfl, rfl⟩
theorem is_26 : Is pg.T.fn 26 f__law_bent := ⟨_, rfl, rfl, rfl, rfl, rfl⟩
theorem is_27 : Is pg.T.fn 27 f__law_told := ⟨_, rfl, rfl, rfl, rfl, rfl⟩
theorem is_28 : Is pg.T.fn 28 f_law_k01 := ⟨_, rfl, rfl, rfl, rfl, rfl⟩
end K01
end
section
set_option maxHeartbeats 0
namespace K01
open PySem PySem.W PySem.Calls PyProof.Rows NW
abbrev Rw : OpenRow := OpenLaw.row PySem.Challenge.rw_noticeways_k01_notices_and_houses_recogn
abbrev qv : Program := view Rw.prog [37]
abbrev hk : PySem.W.Hook := hookN 4 pg Pr
def ob (s : PySem.W.SharedT) : He.AlD := obsNG 4 pg Pr (HandSHeadRun.getT s)
theorem ob_eq (s : PySem.W.SharedT) : ob s = hk.obs s.abs := obsNG_eq (HandSHeadRun.getT_eq s)
def loose : List PySem.Str := (["GREAT", "PAIRS", "MARKS", "JOINTS", "MOST_SIGNS", "MOST_CLAUSES", "MOST_DEEP", "is_from", "is_pair_word", "is_many_word", "is_clause", "is_sign", "row_end", "part_end", "has_notice", "is_notice", "is_house", "is_atom", "has_formula", "is_formula"] : List PySem.Str) ++ (["_law_source", "_law_draw", "_law_choice", "_law_from", "_law_clause", "_law_notice", "_law_formula", "_law_is_triple", "_law_is_row", "_law_joints", "_law_is_notice", "_law_is_house", "_law_is_formula", "_law_bent", "_law_told"] : List PySem.Str)
theorem run (w : World) : HandSHeadRun.RunEq Rw qv hk ob 2000 loose w := by
  intro os
  kernel_rfl
end K01
open PySem PySem.W PySem.Calls PyProof.Rows
theorem K01.head (hrun : ∀ ns : List Int, ns.length ≤ 63 → (∀ z ∈ ns, Builtin.Int.intBits z ≤ 1048576) → ∃ S, NW.callN K01.pg.T.fn 64 28 [.scr ns] [] = .ok (.bl true) S) : PySem.Challenge.rw_noticeways_k01_notices_and_houses_recogn.Holds := by
  w_on; o_law
  refine HandSHeadRun.head_any (r := OpenLaw.row PySem.Challenge.rw_noticeways_k01_notices_and_houses_recogn) (q := K01.qv) (H := K01.hk) (ob := K01.ob) (M := 2000) (loose := K01.loose) (d := HandSHeadRun.topDef (OpenLaw.row PySem.Challenge.rw_noticeways_k01_notices_and_houses_recogn).prog 37) (kwd := []) K01.ob_eq
    (by kernel_rfl) (fun s => by kernel_rfl) K01.run (by kernel_rfl) (by kernel_rfl) (by kernel_rfl) (by rfl) (by first | assumption | decide +kernel) (by decide +kernel) ⟨rfl, rfl, rfl, rfl, rfl, by decide +kernel⟩ ?hw ?hc
  case hw => w_witness2
  case hc =>
    exact NW.law_end (l := PySem.Challenge.rw_noticeways_k01_notices_and_houses_recogn) (n := 63) (k := 63) (m := 4) (lf := 28) (p := K01.pg) (fdl := NW.f_law_k01) (x := "_law_script") rfl (by decide) (by kernel_rfl) ⟨rfl, by decide, by decide⟩ K01.ok rfl (by kernel_rfl) rfl hrun
end
section
/- What the program's recognisers of single values answer. -/
namespace NW
open PySem
structure HVal (T : Nat → Option FD) : Prop where
  h0 : Is T 0 f_is_from
  h1 : Is T 1 f_is_pair_word
  h2 : Is T 2 f_is_many_word
  h3 : Is T 3 f_is_clause
  h4 : Is T 4 f_is_sign
  h9 : Is T 9 f_is_house
  h10 : Is T 10 f_is_atom
  h11 : Is T 11 f_has_formula
  h12 : Is T 12 f_is_formula
def mFrom (v : D) (lo hi : Int) : Bool := match v with
  | .int i => decide (lo ≤ i) && decide (i ≤ hi)
  | _ => false
theorem from_eq {T : Nat → Option FD} (h : HVal T) {k : Nat} {v : D} {lo hi : Int} {S : Store} (hv : v.ok = true) : callN T (k + 1) 0 [v, .int lo, .int hi] S = .ok (.bl (mFrom v lo hi)) S := by
  refine EP_pure (EP_call h.h0 rfl rfl ?_)
  cases v with
  | int i =>
    by_cases h1 : lo ≤ i
    · by_cases h2 : i ≤ hi <;> simp [-Bool.exists_bool, f_is_from, b_is_from, mFrom, h1, h2, evE]
    · simp [-Bool.exists_bool, f_is_from, b_is_from, mFrom, h1]
  | bl b => simp [-Bool.exists_bool, f_is_from, b_is_from, mFrom]
  | non => simp [-Bool.exists_bool, f_is_from, b_is_from, mFrom]
  | str x => simp [-Bool.exists_bool, f_is_from, b_is_from, mFrom]
  | tup x => simp [-Bool.exists_bool, f_is_from, b_is_from, mFrom]
  | lst x => simp [-Bool.exists_bool, f_is_from, b_is_from, mFrom]
  | loc _ => simp only [D.ok] at hv; cases hv
  | fn _ => simp only [D.ok] at hv; cases hv
  | scr _ => simp only [D.ok] at hv; cases hv
def sOk (x : Str) : Bool := PyData.strOk x
theorem okL_strs {ws : List Str} (h : ws.all PyData.strOk = true) : D.okL (ws.map D.str) = true := by
  rw [okL_all, List.all_map]
  exact h
theorem in_strs {S : Store} {ws : List Str} {x : Str} (h : ws.all PyData.strOk = true) (hx : PyData.strOk x = true) : cmpOp .In S (.str x) (.tup (ws.map D.str)) = some (ws.any fun w => w == x) := by
  have ho : inOk (.str x) (ws.map D.str) = true := by
    unfold inOk
    rw [okL_strs h]
    simp only [D.ok, hx, D.depth, Nat.min_zero, Nat.zero_le, decide_true, Bool.and_self]
  simp only [cmp_in, seq_tup, Option.bind_some, flat_str, ho, if_true, List.any_map]
  exact congrArg some (congrArg (fun f => ws.any f) (funext fun w => eqv_str_str))
def PAIR (y z : Str) : Bool := (("a" : Str) == y && ("b" : Str) == z) || (("b" : Str) == y && ("a" : Str) == z)
theorem in_pairs {S : Store} {y z : Str} (hy : PyData.strOk y = true) (hz : PyData.strOk z = true) : cmpOp .In S (.tup [.str y, .str z]) (.tup [.tup [.str "a", .str "b"], .tup [.str "b", .str "a"]]) = some (PAIR y z) := by
  have ha : PyData.strOk ("a" : Str) = true := by decide +kernel
  have hb : PyData.strOk ("b" : Str) = true := by decide +kernel
  have hin : inOk (.tup [.str y, .str z]) [.tup [.str "a", .str "b"], .tup [.str "b", .str "a"]] = true := by
    simp only [inOk, D.ok, D.okL, hy, hz, D.depth, D.depthL, Bool.and_true, Bool.true_and, ha, hb]
    rfl
  simp only [cmp_in, seq_tup, Option.bind_some, flat_tup, hin, if_true]
  simp [PAIR]
def isStr : D → Bool
  | .str _ => true
  | _ => false
theorem isi_str' {S : Store} {v : D} (hv : v.ok = true) : isi S v .str = some (isStr v) := by
  rw [isi_ok hv]
  cases v <;> rfl
def mPair (ws : List Str) : D → Bool
  | .tup [.str x, .str y, .str z] => (ws.any fun w => w == x) && PAIR y z
  | _ => false
def mMany (ws : List Str) : D → Bool
  | .tup [.str x, b, .str z] => (ws.any fun w => w == x) && (mFrom b 1 3 && ([("a" : Str), "b", "both"].any fun w => w == z))
  | _ => false
theorem all_strs {C : Calls} {G : Env} {S : Store} {ds : List D} {j : Nat} (hd : D.okL ds = true) (hl : ds.length ≤ lineN) (hj : j < G.length) :
    compGo (.name j) none (evE C (.isi (.var j) .str)) ⟨ds, none⟩ G ds [] S = .ok (.lst (ds.map fun d => .bl (isStr d))) S := by
  refine compGo_map (fun d => .bl (isStr d)) hl fun x hx => ⟨_, rfl, ?_⟩
  rw [okL_all, List.all_eq_true] at hd
  refine EP_pure ?_
  simp [setV, hj, isi_str' (hd x hx)]
theorem pair_eq {T : Nat → Option FD} (h : HVal T) {k : Nat} {v : D} {ws : List Str} {S : Store} (hv : v.ok = true) (hw : ws.all PyData.strOk = true) (hl : ∀ ds, v = .tup ds → ds.length ≤ lineN) : callN T (k + 1) 1 [.tup (ws.map D.str), v] S = .ok (.bl (mPair ws v)) S := by
  refine EP_pure (EP_call h.h1 rfl rfl ?_)
  cases v with
  | tup ds =>
    have hl' := hl ds rfl
    rw [ok_tup] at hv
    by_cases h3 : ds.length = 3
    · obtain ⟨a, b, c, rfl⟩ := len3 h3
      simp only [D.okL, Bool.and_eq_true] at hv
      obtain ⟨ha, hb, hc, _⟩ := hv
      have hall : ∀ G : Env, 2 < G.length → compGo (.name 2) none (evE (callN T k) (.isi (.var 2) .str)) ⟨[a, b, c], none⟩ G [a, b, c] [] S = .ok (.lst ([a, b, c].map fun d => .bl (isStr d))) S := fun G hG => all_strs (by simp only [D.okL, ha, hb, hc, Bool.and_self]) (by simpa using hl') hG
      have hal : allBl [D.bl (isStr a), D.bl (isStr b), D.bl (isStr c)] = some [isStr a, isStr b, isStr c] := rfl
      by_cases hs : isStr a = true ∧ isStr b = true ∧ isStr c = true
      · obtain ⟨s1, s2, s3⟩ := hs
        match a, b, c, s1, s2, s3 with
        | .str x, .str y, .str z, _, _, _ =>
          have hx : PyData.strOk x = true := by simpa only [D.ok] using ha
          have hy : PyData.strOk y = true := by simpa only [D.ok] using hb
          have hz : PyData.strOk z = true := by simpa only [D.ok] using hc
          by_cases hm : (ws.any fun w => w == x) = true
          · simp [-Bool.exists_bool, f_is_pair_word, b_is_pair_word, wipeE, setV, hall, hal, isStr, in_strs hw hx, hm, mPair, cutD, slIx, in_pairs hy hz, and_assoc]
          · simp [-Bool.exists_bool, f_is_pair_word, b_is_pair_word, wipeE, setV, hall, hal, isStr, in_strs hw hx, hm, mPair]
      · have e : mPair ws (.tup [a, b, c]) = false := by
          cases a <;> cases b <;> cases c <;> first | rfl | exact absurd ⟨rfl, rfl, rfl⟩ hs
        have e2 : ([isStr a, isStr b, isStr c].all id) = false := by
          rw [Bool.eq_false_iff]
          intro q
          simp only [List.all_cons, List.all_nil, id, Bool.and_true, Bool.and_eq_true] at q
          exact hs q
        simp only [List.map_cons, List.map_nil] at hall
        simp [-Bool.exists_bool, -List.all_cons, f_is_pair_word, b_is_pair_word, wipeE, setV, hall, hal, e, e2]
    · have e : mPair ws (.tup ds) = false := by
        unfold mPair
        split
        · rename_i heq; cases heq; exact absurd rfl h3
        · rfl
      have hne : ((ds.length : Int) == 3) = false := by rw [beq_eq_false_iff_ne]; omega
      simp [-Bool.exists_bool, f_is_pair_word, b_is_pair_word, eqOk, D.ok, D.depth, hne, e]
  | int i => simp [-Bool.exists_bool, f_is_pair_word, b_is_pair_word, mPair]
  | bl b => simp [-Bool.exists_bool, f_is_pair_word, b_is_pair_word, mPair]
  | non => simp [-Bool.exists_bool, f_is_pair_word, b_is_pair_word, mPair]
  | str x => simp [-Bool.exists_bool, f_is_pair_word, b_is_pair_word, mPair]
  | lst x => simp [-Bool.exists_bool, f_is_pair_word, b_is_pair_word, mPair]
  | loc _ => simp only [D.ok] at hv; cases hv
  | fn _ => simp only [D.ok] at hv; cases hv
  | scr _ => simp only [D.ok] at hv; cases hv

theorem many_eq {T : Nat → Option FD} (h : HVal T) {k : Nat} {v : D} {ws : List Str} {S : Store} (hv : v.ok = true) (hw : ws.all PyData.strOk = true) : callN T (k + 2) 2 [.tup (ws.map D.str), v] S = .ok (.bl (mMany ws v)) S := by
  refine EP_pure (EP_call h.h2 rfl rfl ?_)
  cases v with
  | tup ds =>
    rw [ok_tup] at hv
    by_cases h3 : ds.length = 3
    · obtain ⟨a, b, c, rfl⟩ := len3 h3
      simp only [D.okL, Bool.and_eq_true] at hv
      obtain ⟨ha, hb, hc, _⟩ := hv
      have i1 : NW.isi S a .str = some (isStr a) := isi_str' ha
      have i2 : NW.isi S c .str = some (isStr c) := isi_str' hc
      by_cases hs : isStr a = true
      · match a, hs with
        | .str x, _ =>
          have hx : PyData.strOk x = true := by simpa only [D.ok] using ha
          by_cases hm : (ws.any fun w => w == x) = true
          · by_cases hf : mFrom b 1 3 = true
            · by_cases hs2 : isStr c = true
              · match c, hs2 with
                | .str z, _ =>
                  have hz : PyData.strOk z = true := by simpa only [D.ok] using hc
                  have hin := in_strs (S := S) (ws := ["a", "b", "both"]) (x := z) (by decide +kernel) hz
                  simp only [List.map_cons, List.map_nil] at hin
                  simp [-Bool.exists_bool, f_is_many_word, b_is_many_word, setV, in_strs hw hx, hm, mMany, from_eq h hb, hf, hin]
              · have e : mMany ws (.tup [.str x, b, c]) = false := by cases c <;> first | rfl | exact absurd rfl hs2
                simp [-Bool.exists_bool, f_is_many_word, b_is_many_word, setV, in_strs hw hx, hm, from_eq h hb, hf, i2, hs2, e]
            · have e : mMany ws (.tup [.str x, b, c]) = false := by cases c <;> first | rfl | simp [mMany, hf]
              simp [-Bool.exists_bool, f_is_many_word, b_is_many_word, setV, in_strs hw hx, hm, from_eq h hb, hf, e]
          · have e : mMany ws (.tup [.str x, b, c]) = false := by cases c <;> first | rfl | simp [mMany, hm]
            simp [-Bool.exists_bool, f_is_many_word, b_is_many_word, setV, in_strs hw hx, hm, e]
      · have e : mMany ws (.tup [a, b, c]) = false := by cases a <;> first | rfl | exact absurd rfl hs
        simp [-Bool.exists_bool, f_is_many_word, b_is_many_word, setV, i1, hs, e]
    · have e : mMany ws (.tup ds) = false := by
        unfold mMany
        split
        · rename_i heq; cases heq; exact absurd rfl h3
        · rfl
      have hne : ((ds.length : Int) == 3) = false := by rw [beq_eq_false_iff_ne]; omega
      simp [-Bool.exists_bool, f_is_many_word, b_is_many_word, hne, e]
  | int i => simp [-Bool.exists_bool, f_is_many_word, b_is_many_word, mMany]
  | bl b => simp [-Bool.exists_bool, f_is_many_word, b_is_many_word, mMany]
  | non => simp [-Bool.exists_bool, f_is_many_word, b_is_many_word, mMany]
  | str x => simp [-Bool.exists_bool, f_is_many_word, b_is_many_word, mMany]
  | lst x => simp [-Bool.exists_bool, f_is_many_word, b_is_many_word, mMany]
  | loc _ => simp only [D.ok] at hv; cases hv
  | fn _ => simp only [D.ok] at hv; cases hv
  | scr _ => simp only [D.ok] at hv; cases hv
def mClause (v : D) : Bool := mPair ["all", "some", "no", "allnot"] v || mMany ["has"] v
def mAtom (v : D) : Bool := mPair ["all", "some", "no"] v || mMany ["least", "just"] v
theorem clause_eq {T : Nat → Option FD} (h : HVal T) {k : Nat} {v : D} {S : Store} (hv : v.ok = true) (hl : ∀ ds, v = .tup ds → ds.length ≤ lineN) : callN T (k + 3) 3 [v] S = .ok (.bl (mClause v)) S := by
  refine EP_pure (EP_call h.h3 rfl rfl ?_)
  have e1 := pair_eq (k := k + 1) (ws := ["all", "some", "no", "allnot"]) (S := S) h hv (by decide +kernel) hl
  have e2 := many_eq (k := k) (ws := ["has"]) (S := S) h hv (by decide +kernel)
  simp only [List.map_cons, List.map_nil] at e1 e2
  by_cases hp : mPair ["all", "some", "no", "allnot"] v = true
  · simp [-Bool.exists_bool, f_is_clause, b_is_clause, e1, lineN, hp, mClause]
  · simp [-Bool.exists_bool, f_is_clause, b_is_clause, e1, e2, lineN, hp, mClause]
theorem atom_eq {T : Nat → Option FD} (h : HVal T) {k : Nat} {v : D} {S : Store} (hv : v.ok = true) (hl : ∀ ds, v = .tup ds → ds.length ≤ lineN) : callN T (k + 3) 10 [v] S = .ok (.bl (mAtom v)) S := by
  refine EP_pure (EP_call h.h10 rfl rfl ?_)
  have e1 := pair_eq (k := k + 1) (ws := ["all", "some", "no"]) (S := S) h hv (by decide +kernel) hl
  have e2 := many_eq (k := k) (ws := ["least", "just"]) (S := S) h hv (by decide +kernel)
  simp only [List.map_cons, List.map_nil] at e1 e2
  by_cases hp : mPair ["all", "some", "no"] v = true
  · simp [-Bool.exists_bool, f_is_atom, b_is_atom, e1, lineN, hp, mAtom]
  · simp [-Bool.exists_bool, f_is_atom, b_is_atom, e1, e2, lineN, hp, mAtom]
def mSign (v : D) : Bool := match v with
  | .str x => (([("and" : Str), "or", "unless", "onlyif"].any fun w => w == x) || ([("not" : Str), "(", ")"].any fun w => w == x))
  | v => mClause v
theorem sign_eq {T : Nat → Option FD} (h : HVal T) {k : Nat} {v : D} {S : Store} (hv : v.ok = true) (hl : ∀ ds, v = .tup ds → ds.length ≤ lineN) : callN T (k + 4) 4 [v] S = .ok (.bl (mSign v)) S := by
  refine EP_pure (EP_call h.h4 rfl rfl ?_)
  by_cases hs : isStr v = true
  · match v, hs with
    | .str x, _ =>
      have hx : PyData.strOk x = true := by simpa only [D.ok] using hv
      have h1 := in_strs (S := S) (ws := ["and", "or", "unless", "onlyif"]) (x := x) (by decide +kernel) hx
      have h2 := in_strs (S := S) (ws := ["not", "(", ")"]) (x := x) (by decide +kernel) hx
      simp only [List.map_cons, List.map_nil] at h1 h2
      by_cases hp : ([("and" : Str), "or", "unless", "onlyif"].any fun w => w == x) = true
      · rw [hp] at h1
        simp [-Bool.exists_bool, -List.any_cons, f_is_sign, b_is_sign, h1, mSign, hp]
      · rw [Bool.eq_false_iff.mpr hp] at h1
        simp [-Bool.exists_bool, -List.any_cons, f_is_sign, b_is_sign, h1, h2, mSign, Bool.eq_false_iff.mpr hp, lineN]
  · have e : mSign v = mClause v := by cases v <;> first | rfl | exact absurd rfl hs
    have e2 := clause_eq (k := k) (S := S) h hv hl
    simp [-Bool.exists_bool, f_is_sign, b_is_sign, isi_str' hv, hs, e, e2]
end NW
end
section
/- What the program's recognisers of houses and formulas answer. -/
namespace NW
open PySem
mutual
/-- no tuple, no list in it is longer than n -/
def D.fit (n : Nat) : D → Bool
  | .tup ds => decide (ds.length ≤ n) && D.fitL n ds
  | .lst ds => decide (ds.length ≤ n) && D.fitL n ds
  | .non => true
  | .bl _ => true
  | .int _ => true
  | .str _ => true
  | .loc _ => true
  | .fn _ => true
  | .scr _ => true
def D.fitL (n : Nat) : List D → Bool
  | [] => true
  | d :: ds => D.fit n d && D.fitL n ds
end
theorem fitL_all {n : Nat} : ∀ {ds : List D}, D.fitL n ds = ds.all (D.fit n)
  | [] => by simp only [D.fitL, List.all_nil]
  | d :: ds => by simp only [D.fitL, List.all_cons, fitL_all (ds := ds)]
theorem fit_tup {n : Nat} {ds : List D} (h : (D.tup ds).fit n = true) : ds.length ≤ n ∧ ∀ d ∈ ds, d.fit n = true := by
  simp only [D.fit, Bool.and_eq_true, decide_eq_true_eq, fitL_all, List.all_eq_true] at h
  exact h
theorem ok_tups {ds : List D} (h : (D.tup ds).ok = true) : ∀ d ∈ ds, d.ok = true := by
  rw [ok_tup, okL_all, List.all_eq_true] at h
  exact h
def mHouse : D → Bool
  | .tup ds => decide (ds.length = 4) && ds.all fun d => mFrom d 0 1000000000000000000000000000000
  | _ => false
theorem house_eq {T : Nat → Option FD} (h : HVal T) {k : Nat} {v : D} {S : Store} (hv : v.ok = true) (hf : v.fit lineN = true) : callN T (k + 2) 9 [v] S = .ok (.bl (mHouse v)) S := by
  refine EP_pure (EP_call h.h9 rfl rfl ?_)
  cases v with
  | tup ds =>
    obtain ⟨hl, _⟩ := fit_tup hf
    by_cases h4 : ds.length = 4
    · have hc : ∀ G : Env, 1 < G.length → compGo (.name 1) none (evE (callN T (k + 1)) (.call 0 (.cons (.var 1) (.cons (.int 0) (.cons (.cst "GREAT" (.int (1000000000000000000000000000000))) (.nil)))))) ⟨ds, none⟩ G ds [] S = .ok (.lst (ds.map fun d => .bl (mFrom d 0 1000000000000000000000000000000))) S := fun G hG =>
        compGo_map (fun d => .bl (mFrom d 0 1000000000000000000000000000000)) hl fun x hx => ⟨_, rfl, EP_pure (by simp [setV, hG, from_eq h (ok_tups hv x hx)])⟩
      have he : ((ds.length : Int) == 4) = true := by rw [beq_iff_eq]; omega
      simp [-Bool.exists_bool, f_is_house, b_is_house, he, wipeE, hc, allBl_map, mHouse, h4, List.all_map]
    · have he : ((ds.length : Int) == 4) = false := by rw [beq_eq_false_iff_ne]; omega
      simp [-Bool.exists_bool, f_is_house, b_is_house, he, mHouse, h4]
  | int i => simp [-Bool.exists_bool, f_is_house, b_is_house, mHouse]
  | bl b => simp [-Bool.exists_bool, f_is_house, b_is_house, mHouse]
  | non => simp [-Bool.exists_bool, f_is_house, b_is_house, mHouse]
  | str x => simp [-Bool.exists_bool, f_is_house, b_is_house, mHouse]
  | lst x => simp [-Bool.exists_bool, f_is_house, b_is_house, mHouse]
  | loc _ => simp only [D.ok] at hv; cases hv
  | fn _ => simp only [D.ok] at hv; cases hv
  | scr _ => simp only [D.ok] at hv; cases hv
def mForm : Nat → D → Bool
  | 0, _ => false
  | n + 1, .tup (.str x :: d :: r) => if x = "not" then (match r with
      | [] => mForm n d
      | _ => false)
    else if ([("and" : Str), "or", "if", "other"].any fun w => w == x) = true then (match r with
      | [e] => mForm n d && mForm n e
      | _ => false)
    else mAtom (.tup (.str x :: d :: r))
  | _, _ => false
theorem form_eq {T : Nat → Option FD} (h : HVal T) {S : Store} : ∀ (n k : Nat) (v : D), v.ok = true → v.fit lineN = true → callN T (k + 4 + n) 11 [v, .int n] S = .ok (.bl (mForm n v)) S := by
  intro n
  induction n with
  | zero =>
    intro k v hv hf
    refine EP_pure (EP_call h.h11 rfl rfl ?_)
    cases v with
    | tup ds =>
      match ds with
      | [] => simp [-Bool.exists_bool, f_has_formula, b_has_formula, mForm]
      | [a] => simp [-Bool.exists_bool, f_has_formula, b_has_formula, mForm]
      | a :: b :: r =>
        have ha := isi_str' (S := S) (ok_tups hv a (by simp))
        have hl : ¬ ((r.length : Int) + 1 + 1 < 2) := by omega
        by_cases hs : isStr a = true
        · simp [-Bool.exists_bool, f_has_formula, b_has_formula, mForm, ha, hs, hl]
        · simp [-Bool.exists_bool, f_has_formula, b_has_formula, mForm, ha, hs, hl]
    | int i => simp [-Bool.exists_bool, f_has_formula, b_has_formula, mForm]
    | bl b => simp [-Bool.exists_bool, f_has_formula, b_has_formula, mForm]
    | non => simp [-Bool.exists_bool, f_has_formula, b_has_formula, mForm]
    | str x => simp [-Bool.exists_bool, f_has_formula, b_has_formula, mForm]
    | lst x => simp [-Bool.exists_bool, f_has_formula, b_has_formula, mForm]
    | loc _ => simp only [D.ok] at hv; cases hv
    | fn _ => simp only [D.ok] at hv; cases hv
    | scr _ => simp only [D.ok] at hv; cases hv
  | succ n ih =>
    intro k v hv hf
    have hk : k + 4 + (n + 1) = (k + 4 + n) + 1 := by omega
    rw [hk]
    refine EP_pure (EP_call h.h11 rfl rfl ?_)
    cases v with
    | tup ds =>
      have hkn : ((n : Int) + 1 == 0) = false := by rw [beq_eq_false_iff_ne]; omega
      have hsub : (n : Int) + 1 - 1 = n := by omega
      obtain ⟨hl, hfi⟩ := fit_tup hf
      match ds, hv, hf, hl, hfi with
      | [], _, _, _, _ => simp [-Bool.exists_bool, f_has_formula, b_has_formula, mForm]
      | [a], _, _, _, _ => simp [-Bool.exists_bool, f_has_formula, b_has_formula, mForm]
      | a :: b :: r, hv, hf, hl, hfi =>
        have ha := isi_str' (S := S) (ok_tups hv a (by simp))
        have hll : ¬ ((r.length : Int) + 1 + 1 < 2) := by omega
        by_cases hs : isStr a = true
        · match a, hs with
          | .str x, _ =>
            have hx : PyData.strOk x = true := by simpa only [D.ok] using ok_tups hv (.str x) (by simp)
            have hq := eqOk_str hx (show PyData.strOk ("not" : Str) = true by decide +kernel)
            have hin := in_strs (S := S) (ws := ["and", "or", "if", "other"]) (x := x) (by decide +kernel) hx
            simp only [List.map_cons, List.map_nil] at hin
            have hb1 := ih k b (ok_tups hv b (by simp)) (hfi b (by simp))
            by_cases hn : x = "not"
            · match r, hll with
              | [], hll =>
                subst hn
                simp [-Bool.exists_bool, -List.any_cons, f_has_formula, b_has_formula, mForm, ha, isStr, hkn, cmp_eq, hq, hsub, hb1, atD_1]
              | c :: r', hll =>
                have hne : ((r'.length : Int) + 1 + 1 + 1 == 2) = false := by rw [beq_eq_false_iff_ne]; omega
                subst hn
                have hll2 : ¬ ((r'.length : Int) + 1 + 1 + 1 < 2) := by omega
                simp [-Bool.exists_bool, -List.any_cons, f_has_formula, b_has_formula, mForm, ha, isStr, hkn, cmp_eq, hq, hsub, hne, hll2]
            · have hn' : (x == ("not" : Str)) = false := by rw [beq_eq_false_iff_ne]; exact hn
              by_cases hi : ([("and" : Str), "or", "if", "other"].any fun w => w == x) = true
              · have hi2 := hi
                rw [hi] at hin
                match r, hll with
                | [], hll =>
                  simp [-Bool.exists_bool, -List.any_cons, f_has_formula, b_has_formula, mForm, ha, isStr, hkn, cmp_eq, hq, hsub, hn, hn', hin, hi, lineN]
                | [c], hll =>
                  have hc1 := ih k c (ok_tups hv c (by simp)) (hfi c (by simp))
                  have hc : ∀ y : D, compGo (.name 2) none (evE (callN T (k + 4 + n)) (.call 11 (.cons (.var 2) (.cons (.bin .Sub (.var 1) (.int 1)) (.nil))))) ⟨[b, c], none⟩ [some (.tup [y, b, c]), some (.int ((n : Int) + 1)), none] [b, c] [] S = .ok (.lst ([b, c].map fun d => .bl (mForm n d))) S := fun y =>
                    compGo_map (fun d => .bl (mForm n d)) (by simp [lineN]) fun x hx => ⟨_, rfl, EP_pure (by
                      have hx' : callN T (k + 4 + n) 11 [x, .int n] S = .ok (.bl (mForm n x)) S := by
                        simp only [List.mem_cons, List.not_mem_nil, or_false] at hx
                        rcases hx with rfl | rfl
                        · exact hb1
                        · exact hc1
                      simp [setV, hsub, hx'])⟩
                  simp [-Bool.exists_bool, -List.any_cons, f_has_formula, b_has_formula, mForm, ha, isStr, hkn, cmp_eq, hq, hsub, hn, hn', hin, hi, lineN, cutD, slIx, wipeE, hc]
                | c :: d :: r', hll =>
                  have hne : ((r'.length : Int) + 1 + 1 + 1 + 1 == 3) = false := by rw [beq_eq_false_iff_ne]; omega
                  have hll2 : ¬ ((r'.length : Int) + 1 + 1 + 1 + 1 < 2) := by omega
                  simp [-Bool.exists_bool, -List.any_cons, f_has_formula, b_has_formula, mForm, ha, isStr, hkn, cmp_eq, hq, hsub, hn, hn', hin, hi, hne, hll2, lineN]
              · rw [Bool.eq_false_iff.mpr hi] at hin
                have hat := atom_eq (k := k + 1 + n) (S := S) h hv (fun ds e => by cases e; exact hl)
                rw [show k + 1 + n + 3 = k + 4 + n by omega] at hat
                simp [-Bool.exists_bool, -List.any_cons, f_has_formula, b_has_formula, mForm, ha, isStr, hkn, cmp_eq, hq, hsub, hn, hn', hin, hi, hat, hll, lineN]
        · have e : mForm (n + 1) (.tup (a :: b :: r)) = false := by cases a <;> first | rfl | exact absurd rfl hs
          simp [-Bool.exists_bool, f_has_formula, b_has_formula, ha, hs, e, hll]
    | int i => simp [-Bool.exists_bool, f_has_formula, b_has_formula, mForm]
    | bl b => simp [-Bool.exists_bool, f_has_formula, b_has_formula, mForm]
    | non => simp [-Bool.exists_bool, f_has_formula, b_has_formula, mForm]
    | str x => simp [-Bool.exists_bool, f_has_formula, b_has_formula, mForm]
    | lst x => simp [-Bool.exists_bool, f_has_formula, b_has_formula, mForm]
    | loc _ => simp only [D.ok] at hv; cases hv
    | fn _ => simp only [D.ok] at hv; cases hv
    | scr _ => simp only [D.ok] at hv; cases hv
end NW
end
section
/- What the program's reader of rows answers: a machine that counts brackets. -/
namespace NW
open PySem
inductive Tk where
  | nt | lp | rp | jt | x
  deriving DecidableEq
def tk : D → Tk
  | .str s => if s = "not" then .nt else if s = "(" then .lp else if s = ")" then .rp else .jt
  | _ => .x
/-- does the row end well from here: d brackets are open; true: a part is due, false: a part has ended -/
def acc : Nat → Bool → List Tk → Bool
  | d, true, .nt :: r => acc d true r
  | d, true, .lp :: r => acc (d + 1) true r
  | d, true, .x :: r => acc d false r
  | d, false, .jt :: r => acc d true r
  | d + 1, false, .rp :: r => acc d false r
  | 0, false, [] => true
  | _, _, _ => false
structure HRow (T : Nat → Option FD) : Prop where
  h5 : Is T 5 f_row_end
  h6 : Is T 6 f_part_end
/-- a sign of a row -/
def rowSign (v : D) : Bool := match v with
  | .str x => (([("and" : Str), "or", "unless", "onlyif"].any fun w => w == x) || ([("not" : Str), "(", ")"].any fun w => w == x))
  | .tup _ => true
  | _ => false
def accD (ds : List D) (a d : Nat) (q : Bool) : Bool := acc d q ((ds.drop a).map tk)
def PartS (ds : List D) (S : Store) (a : Nat) (d : D) (S' : Store) : Prop := S' = S ∧ ((∃ b : Nat, d = .int b ∧ a < b ∧ b ≤ ds.length ∧ ∀ n, accD ds a n true = accD ds b n false) ∨ (d = .non ∧ ∀ n, accD ds a n true = false))
def RowS (ds : List D) (S : Store) (a : Nat) (d : D) (S' : Store) : Prop := S' = S ∧ ((∃ b : Nat, d = .int b ∧ a < b ∧ b ≤ ds.length ∧ (∀ n, accD ds a n true = accD ds b n false) ∧ (∀ h : b < ds.length, tk ds[b] ≠ .jt)) ∨ (d = .non ∧ ∀ n, accD ds a n true = false))
section
variable {T : Nat → Option FD} {ds : List D} {S : Store}
theorem accD_cons {a n : Nat} {q : Bool} (h : a < ds.length) : accD ds a n q = acc n q (tk ds[a] :: (ds.drop (a + 1)).map tk) := by
  unfold accD
  rw [List.drop_eq_getElem_cons h, List.map_cons]
theorem accD_end {a n : Nat} (h : ds.length ≤ a) : accD ds a n true = false := by
  unfold accD
  rw [List.drop_eq_nil_of_le h]
  simp [acc]
theorem part_step (h : HRow T) (hv : ∀ d ∈ ds, d.ok = true) (hr : ∀ d ∈ ds, rowSign d = true) {K a : Nat} (ha : a ≤ ds.length) (hl : ds.length < 1000)
    (ih : ∀ b, a < b → b ≤ ds.length → EP (callN T K 5 [.tup ds, .int b] S) (RowS ds S b)) : EP (callN T (K + 1) 6 [.tup ds, .int a] S) (PartS ds S a) := by
  refine EP_call h.h6 rfl rfl ?_
  have hno : PyData.strOk ("not" : Str) = true := by decide +kernel
  have hlp : PyData.strOk ("(" : Str) = true := by decide +kernel
  have hrp : PyData.strOk (")" : Str) = true := by decide +kernel
  simp only [f_part_end, b_part_end, SP_cons (s := .whl _ _)]
  refine SP_whl (fun m G S1 => S1 = S ∧ ∃ b : Nat, G = [some (.tup ds), some (.int b)] ∧ a ≤ b ∧ b ≤ ds.length ∧ m = ds.length - b ∧ ∀ n, accD ds a n true = accD ds b n true) (n := ds.length - a)
    (by show _ < 1048576; omega) ⟨rfl, a, rfl, Nat.le_refl _, ha, rfl, fun _ => rfl⟩ ?_
  rintro m G S1 ⟨rfl, b, rfl, h1, h2, rfl, h3⟩
  by_cases hb : b < ds.length
  · have hb' : (b : Int) < (ds.length : Int) := by omega
    have hat := atD_nat hb
    have hvb := hv _ (List.getElem_mem hb)
    have hrb := hr _ (List.getElem_mem hb)
    have hacc := fun n q => accD_cons (n := n) (q := q) hb
    have hge : ¬ (ds.length : Int) ≤ (b : Int) := by omega
    generalize hd : ds[b] = v at *
    by_cases hs : isStr v = true
    · match v, hs with
      | .str x, _ =>
        by_cases hx : x = "not"
        · subst hx
          simp [-Bool.exists_bool, hb', hat, eq_sign hvb hno, setV]
          refine ⟨ds.length - (b + 1), by omega, b + 1, by omega, by omega, by omega, rfl, fun n => ?_⟩
          rw [h3 n, hacc n true]
          simp [tk, acc, accD]
        · have hx' : (x == ("not" : Str)) = false := by rw [beq_eq_false_iff_ne]; exact hx
          by_cases hx2 : x = "("
          · subst hx2
            have hbr := fun n => (hacc n true).trans (show acc n true (tk (.str "(") :: (ds.drop (b + 1)).map tk) = accD ds (b + 1) (n + 1) true by simp [tk, acc, accD, hx])
            simp [-Bool.exists_bool, hb', hat, eq_sign hvb hno, eq_sign hvb hlp, hx', hge, setV]
            have hih := ih (b + 1) (by omega) (by omega)
            simp only [Int.natCast_add, Int.cast_ofNat_Int] at hih
            refine hih.mono fun d S2 ⟨e, q⟩ => ?_
            subst e
            rcases q with ⟨c, rfl, c1, c2, c3, c4⟩ | ⟨rfl, c3⟩
            · by_cases hc : c < ds.length
              · have hc' : (c : Int) < (ds.length : Int) := by omega
                have hat2 := atD_nat hc
                have hvc := hv _ (List.getElem_mem hc)
                have hacc2 := fun n q => accD_cons (n := n) (q := q) hc
                by_cases hr2 : isS ")" ds[c] = true
                · have et : tk ds[c] = .rp := by
                    generalize ds[c] = u at hr2
                    cases u <;> first | (cases hr2; done) | skip
                    simp only [isS_str, beq_iff_eq] at hr2
                    subst hr2
                    rfl
                  simp [-Bool.exists_bool, hc', hat2, eq_sign hvc hrp, hr2]
                  refine ⟨rfl, .inl ⟨c + 1, by simp, by omega, by omega, fun n => ?_⟩⟩
                  rw [h3 n, hbr n, c3 (n + 1), hacc2 (n + 1) false, et]
                  simp [acc, accD]
                · simp [-Bool.exists_bool, hc', hat2, eq_sign hvc hrp, hr2]
                  refine ⟨rfl, .inr ⟨rfl, fun n => ?_⟩⟩
                  rw [h3 n, hbr n, c3 (n + 1), hacc2 (n + 1) false]
                  have n1 := c4 hc
                  have n2 : tk ds[c] ≠ .rp := by
                    generalize ds[c] = u at hr2
                    intro e
                    cases u <;> simp only [tk] at e <;> first | (cases e; done) | skip
                    simp only [isS_str, beq_iff_eq] at hr2
                    rw [if_neg hr2] at e
                    split at e
                    · cases e
                    · split at e <;> cases e
                  generalize tk ds[c] = u at n1 n2
                  cases u <;> first | exact absurd rfl n1 | exact absurd rfl n2 | simp [acc]
              · have hc' : ¬ (c : Int) < (ds.length : Int) := by omega
                simp [-Bool.exists_bool, hc']
                refine ⟨rfl, .inr ⟨rfl, fun n => ?_⟩⟩
                rw [h3 n, hbr n, c3 (n + 1)]
                unfold accD
                rw [List.drop_eq_nil_of_le (by omega)]
                simp [acc]
            · simp [-Bool.exists_bool]
              exact ⟨rfl, .inr ⟨rfl, fun n => by rw [h3 n, hbr n, c3 (n + 1)]⟩⟩
          · have hx2' : (x == ("(" : Str)) = false := by rw [beq_eq_false_iff_ne]; exact hx2
            simp [-Bool.exists_bool, hb', hat, eq_sign hvb hno, eq_sign hvb hlp, hx', hx2', hge]
            refine ⟨rfl, .inr ⟨rfl, fun n => ?_⟩⟩
            rw [h3 n, hacc n true]
            simp only [tk, if_neg hx, if_neg hx2]
            split <;> simp [acc]
    · have e1 := eq_sign (S := S1) hvb hno
      have e2 := eq_sign (S := S1) hvb hlp
      have ex : tk v = .x := by cases v <;> first | rfl | exact absurd rfl hs
      rw [show isS "not" v = false by cases v <;> first | rfl | exact absurd rfl hs] at e1
      rw [show isS "(" v = false by cases v <;> first | rfl | exact absurd rfl hs] at e2
      simp [-Bool.exists_bool, hb', hat, e1, e2, hge, isi_str' hvb, hs]
      refine ⟨rfl, .inl ⟨b + 1, by simp, by omega, by omega, fun n => ?_⟩⟩
      rw [h3 n, hacc n true, ex]
      simp [acc, accD]
  · have hb' : ¬ (b : Int) < (ds.length : Int) := by omega
    have hge : (ds.length : Int) ≤ (b : Int) := by omega
    simp [-Bool.exists_bool, hb', hge]
    exact ⟨rfl, .inr ⟨rfl, fun n => by rw [h3 n, accD_end (by omega)]⟩⟩

def isIn (ws : List Str) : D → Bool
  | .str x => ws.any fun w => w == x
  | _ => false
theorem depthL_strs : ∀ ws : List Str, D.depthL (ws.map D.str) = 0
  | [] => by simp [D.depthL]
  | w :: ws => by simp [D.depthL, D.depth, depthL_strs ws]
theorem in_sign {v : D} {ws : List Str} (hv : v.ok = true) (hw : ws.all PyData.strOk = true) : cmpOp .In S v (.tup (ws.map D.str)) = some (isIn ws v) := by
  have ho : inOk v (ws.map D.str) = true := by
    unfold inOk
    rw [okL_strs hw, hv, depthL_strs]
    simp
  simp only [cmp_in, seq_tup, Option.bind_some, flat_ok hv, ho, if_true, List.any_map]
  refine congrArg some ?_
  cases v <;> first | exact congrArg (fun f => ws.any f) (funext fun w => eqv_str_str) | (simp [isIn, D.eqv]; done)
theorem jt_of {v : D} (h : isIn ["and", "or", "unless", "onlyif"] v = true) : tk v = .jt := by
  cases v <;> simp only [isIn] at h <;> first | (cases h; done) | skip
  simp only [List.any_cons, List.any_nil, Bool.or_false, Bool.or_eq_true, beq_iff_eq] at h
  rcases h with h | h | h | h <;> subst h <;> decide +kernel
theorem not_jt {v : D} (hr : rowSign v = true) (h : ¬ isIn ["and", "or", "unless", "onlyif"] v = true) : tk v ≠ .jt := by
  cases v <;> simp only [rowSign] at hr <;> first | (cases hr; done) | skip
  · rename_i x
    simp only [isIn] at h
    rw [Bool.eq_false_iff.mpr h, Bool.false_or] at hr
    simp only [List.any_cons, List.any_nil, Bool.or_false, Bool.or_eq_true, beq_iff_eq] at hr
    rcases hr with h | h | h <;> subst h <;> decide +kernel
  · simp [tk]
theorem row_step (h : HRow T) (hv : ∀ d ∈ ds, d.ok = true) (hr : ∀ d ∈ ds, rowSign d = true) {K a : Nat} (ha : a ≤ ds.length) (hl : ds.length < 1000)
    (ih : ∀ b, a ≤ b → b ≤ ds.length → EP (callN T K 6 [.tup ds, .int b] S) (PartS ds S b)) : EP (callN T (K + 1) 5 [.tup ds, .int a] S) (RowS ds S a) := by
  refine EP_call h.h5 rfl rfl ?_
  have hjo : (["and", "or", "unless", "onlyif"] : List Str).all PyData.strOk = true := by decide +kernel
  simp only [f_row_end, b_row_end, SP_cons (s := .whl _ _)]
  simp [-Bool.exists_bool]
  refine (ih a (Nat.le_refl _) ha).mono fun d S2 ⟨e, q⟩ => ?_
  subst e
  refine SP_whl (fun m G S1 => S1 = S2 ∧ ((∃ b : Nat, G = [some (.tup ds), some (.int b)] ∧ a < b ∧ b ≤ ds.length ∧ m = ds.length - b + 1 ∧ ∀ n, accD ds a n true = accD ds b n false) ∨ (G = [some (.tup ds), some .non] ∧ m = 0 ∧ ∀ n, accD ds a n true = false)))
    (n := match d with | .int b => ds.length - b.toNat + 1 | _ => 0) ?_ ?_ ?_
  · show _ < 1048576
    rcases q with ⟨b, rfl, q1, q2, q3⟩ | ⟨rfl, q3⟩
    · simp; omega
    · simp
  · refine ⟨rfl, ?_⟩
    rcases q with ⟨b, rfl, q1, q2, q3⟩ | ⟨rfl, q3⟩
    · exact .inl ⟨b, rfl, q1, q2, by simp, q3⟩
    · exact .inr ⟨rfl, rfl, q3⟩
  · clear q
    rintro m G S1 ⟨rfl, q⟩
    rcases q with ⟨b, rfl, q1, q2, rfl, q3⟩ | ⟨rfl, rfl, q3⟩
    · by_cases hb : b < ds.length
      · have hb' : (b : Int) < (ds.length : Int) := by omega
        have hat := atD_nat hb
        have hvb := hv _ (List.getElem_mem hb)
        have hrb := hr _ (List.getElem_mem hb)
        have hin := in_sign (S := S1) hvb hjo
        simp only [List.map_cons, List.map_nil] at hin
        by_cases hj : isIn ["and", "or", "unless", "onlyif"] ds[b] = true
        · rw [hj] at hin
          simp [-Bool.exists_bool, hb', hat, hin]
          have hih := ih (b + 1) (by omega) (by omega)
          simp only [Int.natCast_add, Int.cast_ofNat_Int] at hih
          refine hih.mono fun d S2 ⟨e, q⟩ => ?_
          subst e
          have hacc : ∀ n, accD ds a n true = accD ds (b + 1) n true := fun n => by
            rw [q3 n, accD_cons hb, jt_of hj]
            simp [acc, accD]
          rcases q with ⟨c, rfl, c1, c2, c3⟩ | ⟨rfl, c3⟩
          · exact ⟨ds.length - c + 1, by omega, rfl, .inl ⟨c, rfl, by omega, c2, rfl, fun n => (hacc n).trans (c3 n)⟩⟩
          · exact ⟨0, by omega, rfl, .inr ⟨rfl, rfl, fun n => (hacc n).trans (c3 n)⟩⟩
        · rw [Bool.eq_false_iff.mpr hj] at hin
          simp [-Bool.exists_bool, hb', hat, hin]
          exact ⟨rfl, .inl ⟨b, rfl, q1, q2, q3, fun _ => not_jt hrb hj⟩⟩
      · have hb' : ¬ (b : Int) < (ds.length : Int) := by omega
        simp [-Bool.exists_bool, hb']
        exact ⟨rfl, .inl ⟨b, rfl, q1, q2, q3, fun h => absurd h hb⟩⟩
    · simp [-Bool.exists_bool]
      exact ⟨rfl, .inr ⟨rfl, q3⟩⟩
theorem part_all (h : HRow T) (hv : ∀ d ∈ ds, d.ok = true) (hr : ∀ d ∈ ds, rowSign d = true) (hl : ds.length < 1000) : ∀ (n K a : Nat), a ≤ ds.length → ds.length - a ≤ n → EP (callN T (K + 2 * n + 1) 6 [.tup ds, .int a] S) (PartS ds S a)
  | 0, K, a, ha, hn => part_step h hv hr ha hl fun b h1 h2 => by omega
  | n + 1, K, a, ha, hn => part_step h hv hr ha hl fun b h1 h2 => by
    rw [show K + 2 * (n + 1) = (K + 2 * n + 1) + 1 by omega]
    exact row_step h hv hr h2 hl fun c g1 g2 => part_all h hv hr hl n K c g2 (by omega)
theorem row_all (h : HRow T) (hv : ∀ d ∈ ds, d.ok = true) (hr : ∀ d ∈ ds, rowSign d = true) (hl : ds.length < 1000) {n K a : Nat} (ha : a ≤ ds.length) (hn : ds.length - a ≤ n) : EP (callN T (K + 2 * n + 2) 5 [.tup ds, .int a] S) (RowS ds S a) :=
  row_step h hv hr ha hl fun c g1 g2 => part_all h hv hr hl n K c g2 (by omega)
/-- the whole row is read exactly if the machine takes it -/
theorem row_end_eq {d : D} {S' : Store} (hr : ∀ d ∈ ds, rowSign d = true) (q : RowS ds S 0 d S') : S' = S ∧ ((d = .int ds.length ∧ acc 0 true (ds.map tk) = true) ∨ (d = .non ∧ acc 0 true (ds.map tk) = false) ∨ (∃ b : Nat, d = .int b ∧ b < ds.length ∧ acc 0 true (ds.map tk) = false)) := by
  obtain ⟨e, q⟩ := q
  refine ⟨e, ?_⟩
  have e0 : accD ds 0 0 true = acc 0 true (ds.map tk) := by simp [accD]
  rcases q with ⟨b, rfl, c1, c2, c3, c4⟩ | ⟨rfl, c3⟩
  · by_cases hb : b < ds.length
    · refine .inr (.inr ⟨b, rfl, hb, ?_⟩)
      rw [← e0, c3 0, accD_cons hb]
      have := c4 hb
      generalize tk ds[b] = u at this
      cases u <;> first | exact absurd rfl this | simp [acc]
    · have e : b = ds.length := by omega
      subst e
      refine .inl ⟨rfl, ?_⟩
      rw [← e0, c3 0]
      simp [accD, acc]
  · exact .inr (.inl ⟨rfl, by rw [← e0, c3 0]⟩)
end
end NW
end
section
/- What the program's is_notice, is_formula answer. -/
namespace NW
open PySem
structure HNot (T : Nat → Option FD) : Prop extends HVal T, HRow T where
  h7 : Is T 7 f_has_notice
  h8 : Is T 8 f_is_notice
def isTup : D → Bool
  | .tup _ => true
  | _ => false
def mNotice : D → Bool
  | .tup ds => decide (1 ≤ ds.length ∧ ds.length ≤ 16) && (ds.all mSign && (decide ((ds.filter isTup).length ≤ 4) && acc 0 true (ds.map tk)))
  | _ => false
theorem mClause_tup {v : D} (h : mClause v = true) : isTup v = true := by
  cases v <;> first | rfl | (simp [mClause, mPair, mMany] at h; done)
theorem mSign_row {v : D} (h : mSign v = true) : rowSign v = true := by
  cases v <;> first | exact h | rfl | (have := mClause_tup (show mClause _ = true from h); cases this)
theorem isi_tup' {S : Store} {v : D} (hv : v.ok = true) : isi S v .tuple = some (isTup v) := by
  rw [isi_ok hv]
  cases v <;> rfl
theorem has_eq {T : Nat → Option FD} (h : HNot T) {k : Nat} {v : D} {S : Store} (hv : v.ok = true) (hf : v.fit lineN = true) : callN T (k + 35) 7 [v] S = .ok (.bl (mNotice v)) S := by
  refine EP_pure (EP_call h.h7 rfl rfl ?_)
  cases v with
  | tup ds =>
    obtain ⟨hl, hfi⟩ := fit_tup hf
    have hoks := ok_tups hv
    by_cases h1 : 1 ≤ ds.length
    · by_cases h2 : ds.length ≤ 16
      · have h1' : (1 : Int) ≤ (ds.length : Int) := by omega
        have h2' : (ds.length : Int) ≤ 16 := by omega
        have hc : compGo (.name 1) none (evE (callN T (k + 34)) (.call 4 (.cons (.var 1) (.nil)))) ⟨ds, none⟩ [some (.tup ds), none] ds [] S = .ok (.lst (ds.map fun d => .bl (mSign d))) S :=
          compGo_map (fun d => .bl (mSign d)) hl fun x hx => ⟨_, rfl, EP_pure (by
            have := sign_eq (k := k + 30) (S := S) h.toHVal (hoks x hx) fun ds e => by subst e; exact (fit_tup (hfi _ hx)).1
            simp [setV, this])⟩
        have hc2 : compGo (.name 1) (some (evE (callN T (k + 34)) (.isi (.var 1) .tuple))) (evE (callN T (k + 34)) (.var 1)) ⟨ds, none⟩ [some (.tup ds), none] ds [] S = .ok (.lst (ds.filter isTup)) S := by
          have := compGo_pure (tg := .name 1) (c := some (evE (callN T (k + 34)) (.isi (.var 1) .tuple))) (elt := evE (callN T (k + 34)) (.var 1)) (src := ⟨ds, none⟩) (G := [some (.tup ds), none]) (S := S) isTup id rfl ds [] (by simpa using hl) fun x hx =>
            ⟨_, rfl, EP_pure (by simp [setV, isi_tup' (hoks x hx)]), fun _ => EP_pure (by simp [setV])⟩
          rw [this]
          simp
        by_cases hs : ds.all mSign = true
        · have hs' : (ds.map mSign).all id = true := by rw [List.all_map]; exact hs
          by_cases h4 : (ds.filter isTup).length ≤ 4
          · have h4' : ¬ (4 : Int) < ((ds.filter isTup).length : Int) := by omega
            simp [-Bool.exists_bool, -List.all_map, f_has_notice, b_has_notice, wipeE, h1', h2', hc, hc2, allBl_map, hs', h4']
            have hra := row_all h.toHRow (S := S) hoks (fun d hd => mSign_row (List.all_eq_true.mp hs d hd)) (by omega) (n := 16) (K := k) (a := 0) (Nat.zero_le _) (by omega)
            refine hra.mono fun d S2 hq => ?_
            have hq2 := row_end_eq (fun d hd => mSign_row (List.all_eq_true.mp hs d hd)) hq
            clear hq
            obtain ⟨hS, hq3⟩ := hq2
            subst hS
            rcases hq3 with ⟨rfl, q⟩ | ⟨rfl, q⟩ | ⟨b, rfl, hb, q⟩
            · simp [mNotice, h1, h2, hs, h4, q]
            · simp [mNotice, q, cmp_eq, eqOk, D.ok, D.depth, D.eqv]
            · have hne : ((b : Int) == (ds.length : Int)) = false := by rw [beq_eq_false_iff_ne]; omega
              simp [mNotice, q, hne]
          · have h4' : (4 : Int) < ((ds.filter isTup).length : Int) := by omega
            simp [-Bool.exists_bool, -List.all_map, f_has_notice, b_has_notice, wipeE, h1', h2', hc, hc2, allBl_map, hs', h4', mNotice, h4]
        · have hs' : (ds.map mSign).all id = false := by rw [List.all_map]; exact Bool.eq_false_iff.mpr hs
          simp [-Bool.exists_bool, -List.all_map, f_has_notice, b_has_notice, wipeE, h1', h2', hc, allBl_map, hs', mNotice, Bool.eq_false_iff.mpr hs]
      · have h1' : (1 : Int) ≤ (ds.length : Int) := by omega
        have h2' : ¬ (ds.length : Int) ≤ 16 := by omega
        simp [-Bool.exists_bool, f_has_notice, b_has_notice, h1', h2', mNotice, h2]
    · have h1' : ¬ (1 : Int) ≤ (ds.length : Int) := by omega
      simp [-Bool.exists_bool, f_has_notice, b_has_notice, h1', mNotice, h1]
  | int i => simp [-Bool.exists_bool, f_has_notice, b_has_notice, mNotice]
  | bl b => simp [-Bool.exists_bool, f_has_notice, b_has_notice, mNotice]
  | non => simp [-Bool.exists_bool, f_has_notice, b_has_notice, mNotice]
  | str x => simp [-Bool.exists_bool, f_has_notice, b_has_notice, mNotice]
  | lst x => simp [-Bool.exists_bool, f_has_notice, b_has_notice, mNotice]
  | loc _ => simp only [D.ok] at hv; cases hv
  | fn _ => simp only [D.ok] at hv; cases hv
  | scr _ => simp only [D.ok] at hv; cases hv
theorem notice_eq {T : Nat → Option FD} (h : HNot T) {k : Nat} {v : D} {S : Store} (hv : v.ok = true) (hf : v.fit lineN = true) : callN T (k + 36) 8 [v] S = .ok (.bl (mNotice v)) S := by
  refine EP_pure (EP_call h.h8 rfl rfl ?_)
  simp [f_is_notice, b_is_notice, has_eq h hv hf]
theorem formula_eq {T : Nat → Option FD} (h : HNot T) {k : Nat} {v : D} {S : Store} (hv : v.ok = true) (hf : v.fit lineN = true) : callN T (k + 15) 12 [v] S = .ok (.bl (mForm 10 v)) S := by
  refine EP_pure (EP_call h.h12 rfl rfl ?_)
  have := form_eq (S := S) h.toHVal 10 k v hv hf
  simp only [Int.cast_ofNat_Int] at this
  simp [f_is_formula, b_is_formula, this]
end NW
end
section
/- What the law's own recognisers of k01 answer: single values. -/
namespace NW
open PySem
structure HLaw1 (T : Nat → Option FD) : Prop where
  h16 : Is T 16 f__law_from
  h20 : Is T 20 f__law_is_triple
  h21 : Is T 21 f__law_is_row
  h22 : Is T 22 f__law_joints
  h23 : Is T 23 f__law_is_notice
  h24 : Is T 24 f__law_is_house
  h25 : Is T 25 f__law_is_formula
section
variable {T : Nat → Option FD} {S : Store}
theorem lfrom_eq (h : HLaw1 T) {k : Nat} {v : D} {lo hi : Int} (hv : v.ok = true) : callN T (k + 1) 16 [v, .int lo, .int hi] S = .ok (.bl (mFrom v lo hi)) S := by
  refine EP_pure (EP_call h.h16 rfl rfl ?_)
  cases v with
  | int i =>
    by_cases h1 : lo ≤ i
    · by_cases h2 : i ≤ hi <;> simp [-Bool.exists_bool, f__law_from, b__law_from, mFrom, h1, h2, evE]
    · simp [-Bool.exists_bool, f__law_from, b__law_from, mFrom, h1]
  | bl b => simp [-Bool.exists_bool, f__law_from, b__law_from, mFrom]
  | non => simp [-Bool.exists_bool, f__law_from, b__law_from, mFrom]
  | str x => simp [-Bool.exists_bool, f__law_from, b__law_from, mFrom]
  | tup x => simp [-Bool.exists_bool, f__law_from, b__law_from, mFrom]
  | lst x => simp [-Bool.exists_bool, f__law_from, b__law_from, mFrom]
  | loc _ => simp only [D.ok] at hv; cases hv
  | fn _ => simp only [D.ok] at hv; cases hv
  | scr _ => simp only [D.ok] at hv; cases hv
theorem in_signL {v : D} {ws : List Str} (hv : v.ok = true) (hw : ws.all PyData.strOk = true) : cmpOp .In S v (.lst (ws.map D.str)) = some (isIn ws v) := by
  have := in_sign (S := S) hv hw
  rw [cmp_in] at this ⊢
  exact this
theorem nin_signL {v : D} {ws : List Str} (hv : v.ok = true) (hw : ws.all PyData.strOk = true) : cmpOp .NotIn S v (.lst (ws.map D.str)) = some (!isIn ws v) := by
  have := in_sign (S := S) hv hw
  rw [cmp_in] at this
  rw [cmp_nin]
  simp only [seq_tup, seq_lst, Option.bind_some] at this ⊢
  split at this
  · rename_i hc
    rw [if_pos hc]
    exact congrArg (fun b => some (!b)) (Option.some.inj this)
  · cases this
def pairD (b c : D) : Bool := (D.eqv (.str "a") b && D.eqv (.str "b") c) || (D.eqv (.str "b") b && D.eqv (.str "a") c)
theorem in_pairsL {b c : D} (hb : b.ok = true) (hc : c.ok = true) : cmpOp .In S (.lst [b, c]) (.lst [.lst [.str "a", .str "b"], .lst [.str "b", .str "a"]]) = some (pairD b c) := by
  have ha : PyData.strOk ("a" : Str) = true := by decide +kernel
  have hb' : PyData.strOk ("b" : Str) = true := by decide +kernel
  have hin : inOk (.lst [b, c]) [.lst [.str "a", .str "b"], .lst [.str "b", .str "a"]] = true := by
    simp only [inOk, D.ok, D.okL, hb, hc, D.depth, D.depthL, Bool.and_true, Bool.true_and, ha, hb']
    exact decide_eq_true (Nat.le_trans (Nat.min_le_left _ _) (by decide))
  simp only [cmp_in, seq_lst, Option.bind_some, flat_lst, hin, if_true]
  simp [pairD]
def mTriple (ws cs : List Str) : D → Bool
  | .tup [.str x, b, c] => if (cs.any fun w => w == x) = true then mFrom b 1 3 && isIn ["a", "b", "both"] c else (ws.any fun w => w == x) && pairD b c
  | _ => false
theorem triple_eq (h : HLaw1 T) {k : Nat} {v : D} {ws cs : List Str} (hv : v.ok = true) (hw : ws.all PyData.strOk = true) (hcs : cs.all PyData.strOk = true) :
    callN T (k + 2) 20 [v, .lst (ws.map D.str), .lst (cs.map D.str)] S = .ok (.bl (mTriple ws cs v)) S := by
  refine EP_pure (EP_call h.h20 rfl rfl ?_)
  cases v with
  | tup ds =>
    have hoks := ok_tups hv
    by_cases h3 : ds.length = 3
    · obtain ⟨a, b, c, rfl⟩ := len3 h3
      have ha := hoks a (by simp)
      have hb := hoks b (by simp)
      have hc := hoks c (by simp)
      by_cases hs : isStr a = true
      · match a, hs with
        | .str x, _ =>
          have hin := in_signL (S := S) ha hcs
          have hin2 := in_signL (S := S) ha hw
          by_cases hm : isIn cs (.str x) = true
          · rw [hm] at hin
            have hm2 : (cs.any fun w => w == x) = true := hm
            by_cases hf : mFrom b 1 3 = true
            · by_cases hs2 : isStr c = true
              · have hin3 := in_signL (S := S) (ws := ["a", "b", "both"]) hc (by decide +kernel)
                simp only [List.map_cons, List.map_nil] at hin3
                simp [-Bool.exists_bool, -List.any_eq_true, f__law_is_triple, b__law_is_triple, hin, lfrom_eq h hb, hf, isi_str' hc, hs2, hin3, lineN, mTriple, hm2]
              · have e : isIn ["a", "b", "both"] c = false := by cases c <;> first | rfl | exact absurd rfl hs2
                simp [-Bool.exists_bool, -List.any_eq_true, f__law_is_triple, b__law_is_triple, hin, lfrom_eq h hb, hf, isi_str' hc, hs2, mTriple, hm2, e]
            · simp [-Bool.exists_bool, -List.any_eq_true, f__law_is_triple, b__law_is_triple, hin, lfrom_eq h hb, hf, mTriple, hm2]
          · have hm2 : (cs.any fun w => w == x) = false := Bool.eq_false_iff.mpr hm
            rw [Bool.eq_false_iff.mpr hm] at hin
            by_cases hw2 : isIn ws (.str x) = true
            · have hw3 : (ws.any fun w => w == x) = true := hw2
              rw [hw2] at hin2
              simp [-Bool.exists_bool, -List.any_eq_true, -List.any_eq_false, f__law_is_triple, b__law_is_triple, hin, hin2, mTriple, hm2, hw3, cutD, slIx, in_pairsL hb hc, lineN]
            · have hw3 : (ws.any fun w => w == x) = false := Bool.eq_false_iff.mpr hw2
              rw [Bool.eq_false_iff.mpr hw2] at hin2
              simp [-Bool.exists_bool, -List.any_eq_true, -List.any_eq_false, f__law_is_triple, b__law_is_triple, hin, hin2, mTriple, hm2, hw3]
      · have e : mTriple ws cs (.tup [a, b, c]) = false := by cases a <;> first | rfl | exact absurd rfl hs
        simp [-Bool.exists_bool, f__law_is_triple, b__law_is_triple, isi_str' ha, hs, e]
    · have e : mTriple ws cs (.tup ds) = false := by
        unfold mTriple
        split
        · rename_i heq; cases heq; exact absurd rfl h3
        · rfl
      have hne : ((ds.length : Int) == 3) = false := by rw [beq_eq_false_iff_ne]; omega
      simp [-Bool.exists_bool, f__law_is_triple, b__law_is_triple, hne, e]
  | int i => simp [-Bool.exists_bool, f__law_is_triple, b__law_is_triple, mTriple]
  | bl b => simp [-Bool.exists_bool, f__law_is_triple, b__law_is_triple, mTriple]
  | non => simp [-Bool.exists_bool, f__law_is_triple, b__law_is_triple, mTriple]
  | str x => simp [-Bool.exists_bool, f__law_is_triple, b__law_is_triple, mTriple]
  | lst x => simp [-Bool.exists_bool, f__law_is_triple, b__law_is_triple, mTriple]
  | loc _ => simp only [D.ok] at hv; cases hv
  | fn _ => simp only [D.ok] at hv; cases hv
  | scr _ => simp only [D.ok] at hv; cases hv
end
end NW
end
section
/- The law's recognisers of houses and formulas answer as the program's. -/
namespace NW
open PySem
section
variable {T : Nat → Option FD} {S : Store}
theorem triple_same {ws cs : List Str} (hd : ∀ w ∈ ws, w ∉ cs) (v : D) : mTriple ws cs v = (mPair ws v || mMany cs v) := by
  match v with
  | .tup [.str x, b, c] =>
    simp only [mTriple]
    have e2 : mMany cs (.tup [.str x, b, c]) = ((cs.any fun w => w == x) && (mFrom b 1 3 && isIn ["a", "b", "both"] c)) := by cases c <;> simp [mMany, isIn]
    have e1 : mPair ws (.tup [.str x, b, c]) = ((ws.any fun w => w == x) && pairD b c) := by cases b <;> cases c <;> simp [mPair, pairD, D.eqv, PAIR]
    rw [e1, e2]
    by_cases h : (cs.any fun w => w == x) = true
    · have hw : (ws.any fun w => w == x) = false := by
        rw [Bool.eq_false_iff]
        intro q
        simp only [List.any_eq_true, beq_iff_eq] at q h
        obtain ⟨w, hw, rfl⟩ := q
        obtain ⟨w', hw', rfl⟩ := h
        exact hd _ hw hw'
      simp [h, hw]
    · simp [h]
  | .tup [] => rfl
  | .tup [a] => cases a <;> rfl
  | .tup [a, b] => cases a <;> cases b <;> rfl
  | .tup (a :: b :: c :: d :: r) => cases a <;> cases b <;> cases c <;> rfl
  | .tup [.non, b, c] => rfl
  | .tup [.bl _, b, c] => rfl
  | .tup [.int _, b, c] => rfl
  | .tup [.tup _, b, c] => rfl
  | .tup [.lst _, b, c] => rfl
  | .tup [.loc _, b, c] => rfl
  | .tup [.fn _, b, c] => rfl
  | .tup [.scr _, b, c] => rfl
  | .non => rfl
  | .bl _ => rfl
  | .int _ => rfl
  | .str _ => rfl
  | .lst _ => rfl
  | .loc _ => rfl
  | .fn _ => rfl
  | .scr _ => rfl
theorem eq_nil {ds : List D} (h : ∀ d ∈ ds, d.ok = true) : cmpOp .Eq S (.lst ds) (.lst []) = some ds.isEmpty := by
  have hk : eqOk (.lst ds) (.lst []) = true := by
    unfold eqOk
    rw [ok_lst, ok_lst, okL_all, List.all_eq_true.mpr h]
    simp only [D.okL, D.depth, D.depthL, Bool.and_self, Bool.true_and]
    exact decide_eq_true (Nat.le_trans (Nat.min_le_right _ _) (by decide))
  rw [cmp_eq, flat_lst, flat_lst, hk]
  cases ds <;> simp
theorem lhouse_eq (h : HLaw1 T) {k : Nat} {v : D} (hv : v.ok = true) (hf : v.fit lineN = true) : callN T (k + 2) 24 [v] S = .ok (.bl (mHouse v)) S := by
  refine EP_pure (EP_call h.h24 rfl rfl ?_)
  cases v with
  | tup ds =>
    obtain ⟨hl, _⟩ := fit_tup hf
    have hoks := ok_tups hv
    by_cases h4 : ds.length = 4
    · have hp : powOk 10 30 = true := by decide
      have hc : compGo (.name 1) (some (evE (callN T (k + 1)) (.not (.call 16 (.cons (.var 1) (.cons (.int 0) (.cons (.bin .Pow (.int 10) (.int 30)) (.nil)))))))) (evE (callN T (k + 1)) (.var 1)) ⟨ds, none⟩ [some (.tup ds), none] ds [] S = .ok (.lst (ds.filter fun d => !mFrom d 0 1000000000000000000000000000000)) S := by
        have := compGo_pure (tg := .name 1) (c := some (evE (callN T (k + 1)) (.not (.call 16 (.cons (.var 1) (.cons (.int 0) (.cons (.bin .Pow (.int 10) (.int 30)) (.nil)))))))) (elt := evE (callN T (k + 1)) (.var 1)) (src := ⟨ds, none⟩) (G := [some (.tup ds), none]) (S := S) (fun d => !mFrom d 0 1000000000000000000000000000000) id rfl ds [] (by simpa using hl) fun x hx =>
          ⟨_, rfl, EP_pure (by simp [-Bool.exists_bool, setV, hp, lfrom_eq h (hoks x hx)]), fun _ => EP_pure (by simp [setV])⟩
        rw [this]
        simp
      have he : ((ds.length : Int) == 4) = true := by rw [beq_iff_eq]; omega
      have hn := eq_nil (S := S) (ds := ds.filter fun d => !mFrom d 0 1000000000000000000000000000000) fun d hd => hoks d (List.mem_filter.mp hd).1
      have e : (ds.filter fun d => !mFrom d 0 1000000000000000000000000000000).isEmpty = ds.all fun d => mFrom d 0 1000000000000000000000000000000 := by
        rw [Bool.eq_iff_iff, List.isEmpty_iff, List.filter_eq_nil_iff, List.all_eq_true]
        simp
      rw [e] at hn
      simp [-Bool.exists_bool, -List.all_eq_true, f__law_is_house, b__law_is_house, he, wipeE, hc, hn, mHouse, h4, lineN]
    · have he : ((ds.length : Int) == 4) = false := by rw [beq_eq_false_iff_ne]; omega
      simp [-Bool.exists_bool, f__law_is_house, b__law_is_house, he, mHouse, h4]
  | int i => simp [-Bool.exists_bool, f__law_is_house, b__law_is_house, mHouse]
  | bl b => simp [-Bool.exists_bool, f__law_is_house, b__law_is_house, mHouse]
  | non => simp [-Bool.exists_bool, f__law_is_house, b__law_is_house, mHouse]
  | str x => simp [-Bool.exists_bool, f__law_is_house, b__law_is_house, mHouse]
  | lst x => simp [-Bool.exists_bool, f__law_is_house, b__law_is_house, mHouse]
  | loc _ => simp only [D.ok] at hv; cases hv
  | fn _ => simp only [D.ok] at hv; cases hv
  | scr _ => simp only [D.ok] at hv; cases hv

theorem filt_all {ds : List D} {p : D → Bool} : (ds.filter fun d => !p d).isEmpty = ds.all p := by
  rw [Bool.eq_iff_iff, List.isEmpty_iff, List.filter_eq_nil_iff, List.all_eq_true]
  simp
theorem eq_unit {ds : List D} (h : ∀ d ∈ ds, d.ok = true) : cmpOp .Eq S (.tup ds) (.tup []) = some ds.isEmpty := by
  have hk : eqOk (.tup ds) (.tup []) = true := by
    unfold eqOk
    rw [ok_tup, ok_tup, okL_all, List.all_eq_true.mpr h]
    simp only [D.okL, D.depth, D.depthL, Bool.and_self, Bool.true_and]
    exact decide_eq_true (Nat.le_trans (Nat.min_le_right _ _) (by decide))
  rw [cmp_eq, flat_tup, flat_tup, hk]
  cases ds <;> simp
theorem lform_eq (h : HLaw1 T) : ∀ (n k : Nat) (v : D), v.ok = true → v.fit lineN = true → callN T (k + 3 + n) 25 [v, .int n] S = .ok (.bl (mForm n v)) S := by
  intro n
  induction n with
  | zero =>
    intro k v hv hf
    refine EP_pure (EP_call h.h25 rfl rfl ?_)
    cases v with
    | tup ds =>
      have hu := eq_unit (S := S) (ok_tups hv)
      match ds, hu with
      | [], hu =>
        rw [List.isEmpty_nil] at hu
        simp [-Bool.exists_bool, f__law_is_formula, b__law_is_formula, mForm, hu, lineN]
      | a :: r, hu =>
        rw [List.isEmpty_cons] at hu
        have ha := isi_str' (S := S) (ok_tups hv a (by simp))
        by_cases hs : isStr a = true <;> simp [-Bool.exists_bool, f__law_is_formula, b__law_is_formula, mForm, ha, hs, hu, lineN]
    | int i => simp [-Bool.exists_bool, f__law_is_formula, b__law_is_formula, mForm]
    | bl b => simp [-Bool.exists_bool, f__law_is_formula, b__law_is_formula, mForm]
    | non => simp [-Bool.exists_bool, f__law_is_formula, b__law_is_formula, mForm]
    | str x => simp [-Bool.exists_bool, f__law_is_formula, b__law_is_formula, mForm]
    | lst x => simp [-Bool.exists_bool, f__law_is_formula, b__law_is_formula, mForm]
    | loc _ => simp only [D.ok] at hv; cases hv
    | fn _ => simp only [D.ok] at hv; cases hv
    | scr _ => simp only [D.ok] at hv; cases hv
  | succ n ih =>
    intro k v hv hf
    rw [show k + 3 + (n + 1) = (k + 3 + n) + 1 by omega]
    refine EP_pure (EP_call h.h25 rfl rfl ?_)
    cases v with
    | tup ds =>
      have hkn : ((n : Int) + 1 == 0) = false := by rw [beq_eq_false_iff_ne]; omega
      have hsub : (n : Int) + 1 - 1 = n := by omega
      obtain ⟨hl, hfi⟩ := fit_tup hf
      have hoks := ok_tups hv
      have hu := eq_unit (S := S) hoks
      match ds, hu, hv, hl, hfi, hoks with
      | [], hu, _, _, _, _ =>
        rw [List.isEmpty_nil] at hu
        simp [-Bool.exists_bool, f__law_is_formula, b__law_is_formula, mForm, hu, lineN]
      | a :: r, hu, hv, hl, hfi, hoks =>
        rw [List.isEmpty_cons] at hu
        have ha := isi_str' (S := S) (hoks a (by simp))
        by_cases hs : isStr a = true
        · match a, hs with
          | .str x, _ =>
            have hin := in_signL (S := S) (ws := ["not", "and", "or", "if", "other"]) (hoks (.str x) (by simp)) (by decide +kernel)
            have hno := eq_sign (S := S) (hoks (.str x) (by simp)) (show PyData.strOk ("not" : Str) = true by decide +kernel)
            simp only [List.map_cons, List.map_nil] at hin
            have hcomp : compGo (.name 2) (some (evE (callN T (k + 3 + n)) (.not (.call 25 (.cons (.var 2) (.cons (.bin .Sub (.var 1) (.int 1)) (.nil))))))) (evE (callN T (k + 3 + n)) (.var 2)) ⟨r, none⟩ [some (.tup (.str x :: r)), some (.int ((n : Int) + 1)), none] r [] S = .ok (.lst (r.filter fun d => !mForm n d)) S := by
              have := compGo_pure (tg := .name 2) (c := some (evE (callN T (k + 3 + n)) (.not (.call 25 (.cons (.var 2) (.cons (.bin .Sub (.var 1) (.int 1)) (.nil))))))) (elt := evE (callN T (k + 3 + n)) (.var 2)) (src := ⟨r, none⟩) (G := [some (.tup (.str x :: r)), some (.int ((n : Int) + 1)), none]) (S := S) (fun d => !mForm n d) id rfl r [] (by simp at hl ⊢; omega) fun y hy =>
                ⟨_, rfl, EP_pure (by simp [-Bool.exists_bool, setV, hsub, ih k y (hoks y (by simp [hy])) (hfi y (by simp [hy]))]), fun _ => EP_pure (by simp [setV])⟩
              rw [this]
              simp
            have hn := eq_nil (S := S) (ds := r.filter fun d => !mForm n d) fun d hd => hoks d (List.mem_cons_of_mem _ (List.mem_filter.mp hd).1)
            rw [filt_all] at hn
            have hcut : cutD (D.str x :: r) (some 1) none = r := by
              simp [cutD, slIx]
            by_cases hm : isIn ["not", "and", "or", "if", "other"] (.str x) = true
            · rw [hm] at hin
              by_cases hx : x = "not"
              · subst hx
                rw [show isS "not" (D.str "not") = true by simp] at hno
                by_cases hl1 : r.length = 1
                · have hne : ((r.length : Int) + 1 == 2) = true := by rw [beq_iff_eq]; omega
                  obtain ⟨y, rfl⟩ : ∃ y, r = [y] := by
                    match r, hl1 with
                    | [y], _ => exact ⟨y, rfl⟩
                  simp [-Bool.exists_bool, f__law_is_formula, b__law_is_formula, mForm, ha, isStr, hu, hkn, hin, hno, lineN, hcut, wipeE, hcomp, hn]
                · have hne : ((r.length : Int) + 1 == 2) = false := by rw [beq_eq_false_iff_ne]; omega
                  have e : mForm (n + 1) (.tup (.str "not" :: r)) = false := by
                    match r, hl1 with
                    | [], _ => rfl
                    | [y], h => exact absurd rfl h
                    | y :: z :: r, _ => simp [mForm]
                  simp [-Bool.exists_bool, f__law_is_formula, b__law_is_formula, ha, isStr, hu, hkn, hin, hno, lineN, hne, e]
              · have hx' : isS "not" (D.str x) = false := by simp [hx]
                rw [hx'] at hno
                have hm2 : ([("and" : Str), "or", "if", "other"].any fun w => w == x) = true := by
                  simp only [isIn, List.any_cons, List.any_nil, Bool.or_false, Bool.or_eq_true, beq_iff_eq] at hm ⊢
                  rcases hm with h | h
                  · exact absurd h.symm hx
                  · exact h
                by_cases hl1 : r.length = 2
                · obtain ⟨y, z, rfl⟩ := len2 hl1
                  simp [-Bool.exists_bool, -List.any_cons, f__law_is_formula, b__law_is_formula, mForm, ha, isStr, hu, hkn, hin, hno, lineN, hcut, wipeE, hcomp, hn, hx, hm2]
                · have hne : ((r.length : Int) + 1 == 3) = false := by rw [beq_eq_false_iff_ne]; omega
                  have e : mForm (n + 1) (.tup (.str x :: r)) = false := by
                    match r, hl1 with
                    | [], _ => rfl
                    | [y], _ => simp [-List.any_cons, mForm, hx, hm2]
                    | [y, z], h => exact absurd rfl h
                    | y :: z :: u :: r, _ => simp [-List.any_cons, mForm, hx, hm2]
                  simp [-Bool.exists_bool, f__law_is_formula, b__law_is_formula, ha, isStr, hu, hkn, hin, hno, lineN, hne, e]
            · rw [Bool.eq_false_iff.mpr hm] at hin
              have ht := triple_eq (S := S) h (k := k + 1 + n) (v := .tup (.str x :: r)) (ws := ["all", "some", "no"]) (cs := ["least", "just"]) hv (by decide +kernel) (by decide +kernel)
              rw [show k + 1 + n + 2 = k + 3 + n by omega, triple_same (by decide +kernel)] at ht
              simp only [List.map_cons, List.map_nil] at ht
              have e : mForm (n + 1) (.tup (.str x :: r)) = mAtom (.tup (.str x :: r)) := by
                simp only [isIn, List.any_cons, List.any_nil, Bool.or_false, Bool.or_eq_true, beq_iff_eq, not_or] at hm
                match r with
                | [] => rfl
                | y :: r =>
                  have h1 : ¬ x = "not" := fun q => hm.1 q.symm
                  have h2 : ¬ ([("and" : Str), "or", "if", "other"].any fun w => w == x) = true := by
                    simp only [List.any_cons, List.any_nil, Bool.or_false, Bool.or_eq_true, beq_iff_eq, not_or]
                    exact hm.2
                  simp only [mForm, if_neg h1, if_neg h2]
              simp [-Bool.exists_bool, f__law_is_formula, b__law_is_formula, ha, isStr, hu, hkn, hin, lineN, ht, e, mAtom]
        · have e : mForm (n + 1) (.tup (a :: r)) = false := by cases a <;> cases r <;> first | rfl | exact absurd rfl hs
          simp [-Bool.exists_bool, f__law_is_formula, b__law_is_formula, ha, hs, e, hu, lineN]
    | int i => simp [-Bool.exists_bool, f__law_is_formula, b__law_is_formula, mForm]
    | bl b => simp [-Bool.exists_bool, f__law_is_formula, b__law_is_formula, mForm]
    | non => simp [-Bool.exists_bool, f__law_is_formula, b__law_is_formula, mForm]
    | str x => simp [-Bool.exists_bool, f__law_is_formula, b__law_is_formula, mForm]
    | lst x => simp [-Bool.exists_bool, f__law_is_formula, b__law_is_formula, mForm]
    | loc _ => simp only [D.ok] at hv; cases hv
    | fn _ => simp only [D.ok] at hv; cases hv
    | scr _ => simp only [D.ok] at hv; cases hv
end
end NW
end
section
/- Rows by rewriting: a part for 'not' part, for a part in brackets, for part joint part. -/
namespace NW
open PySem
theorem acc_app {v w : List Tk} (h : ∀ d q, acc d q v = acc d q w) : ∀ (u : List Tk) (d : Nat) (q : Bool), acc d q (u ++ v) = acc d q (u ++ w)
  | [], d, q => h d q
  | t :: u, d, q => by
    cases q <;> cases t <;> cases d <;> simp [acc, acc_app h u]
theorem acc_not (v : List Tk) (d : Nat) (q : Bool) : acc d q (.nt :: .x :: v) = acc d q (.x :: v) := by
  cases q <;> cases d <;> simp [acc]
theorem acc_par (v : List Tk) (d : Nat) (q : Bool) : acc d q (.lp :: .x :: .rp :: v) = acc d q (.x :: v) := by
  cases q <;> cases d <;> simp [acc]
theorem acc_jnt (v : List Tk) (d : Nat) (q : Bool) : acc d q (.x :: .jt :: .x :: v) = acc d q (.x :: v) := by
  cases q <;> cases d <;> simp [acc]
/-- nothing is left to rewrite -/
def NR : List Tk → Prop
  | .nt :: .x :: _ => False
  | .lp :: .x :: .rp :: _ => False
  | .x :: .jt :: .x :: _ => False
  | _ :: r => NR r
  | [] => True
theorem NR.tail {t : Tk} {r : List Tk} (h : NR (t :: r)) : NR r := by
  unfold NR at h
  split at h <;> first | exact h.elim | (rename_i heq; cases heq; exact h) | (rename_i heq; cases heq)
theorem nr_x : ∀ (ts : List Tk) (d : Nat), NR ts → acc d true ts = true → ts = [.x] ∨ ∃ r, ts = .x :: .rp :: r
  | [], d, _, h => by cases d <;> simp [acc] at h
  | .nt :: r, d, n, h => by
    have h' : acc d true r = true := by simpa [acc] using h
    rcases nr_x r d n.tail h' with rfl | ⟨r, rfl⟩ <;> simp [NR] at n
  | .lp :: r, d, n, h => by
    have h' : acc (d + 1) true r = true := by simpa [acc] using h
    rcases nr_x r (d + 1) n.tail h' with rfl | ⟨r, rfl⟩
    · simp [acc] at h'
    · simp [NR] at n
  | .rp :: r, d, _, h => by cases d <;> simp [acc] at h
  | .jt :: r, d, _, h => by cases d <;> simp [acc] at h
  | .x :: r, d, n, h => by
    have h' : acc d false r = true := by simpa [acc] using h
    match r, h' with
    | [], _ => exact .inl rfl
    | .jt :: r, h' =>
      have h2 : acc d true r = true := by cases d <;> simpa [acc] using h'
      rcases nr_x r d n.tail.tail h2 with rfl | ⟨r, rfl⟩ <;> simp [NR] at n
    | .rp :: r, _ => exact .inr ⟨r, rfl⟩
    | .nt :: r, h' => cases d <;> simp [acc] at h'
    | .lp :: r, h' => cases d <;> simp [acc] at h'
    | .x :: r, h' => cases d <;> simp [acc] at h'
theorem nr_one {ts : List Tk} (n : NR ts) : acc 0 true ts = decide (ts = [.x]) := by
  rw [Bool.eq_iff_iff, decide_eq_true_eq]
  refine ⟨fun h => ?_, fun h => by subst h; simp [acc]⟩
  rcases nr_x ts 0 n h with rfl | ⟨r, rfl⟩
  · rfl
  · simp [acc] at h
/-- no place of a redex: NR -/
theorem nr_of : ∀ {ts : List Tk}, (∀ u v, ts ≠ u ++ .nt :: .x :: v) → (∀ u v, ts ≠ u ++ .lp :: .x :: .rp :: v) → (∀ u v, ts ≠ u ++ .x :: .jt :: .x :: v) → NR ts
  | [], _, _, _ => by simp [NR]
  | t :: r, h1, h2, h3 => by
    have ih : NR r := nr_of (fun u v e => h1 (t :: u) v (by rw [e]; rfl)) (fun u v e => h2 (t :: u) v (by rw [e]; rfl)) (fun u v e => h3 (t :: u) v (by rw [e]; rfl))
    unfold NR
    split
    · rename_i e; exact h1 [] _ e
    · rename_i e; exact h2 [] _ e
    · rename_i e; exact h3 [] _ e
    · rename_i e; cases e; exact ih
    · trivial
end NW
end
section
/- The law's reader of rows, by rewriting. -/
namespace NW
open PySem
section
variable {S : Store} {α : Type}
theorem slIx_nat {n d i : Nat} : slIx n d (some (i : Int)) = min i n := by
  show (if (i : Int) < 0 then ((i : Int) + (n : Int)).toNat else min (i : Int).toNat n) = _
  rw [if_neg (by omega), Int.toNat_natCast]
theorem cut_mid {xs : List α} {i m : Nat} : cutD xs (some (i : Int)) (some ((i : Int) + (m : Int))) = (xs.drop i).take m := by
  unfold cutD
  rw [show (i : Int) + (m : Int) = ((i + m : Nat) : Int) by omega, slIx_nat, slIx_nat]
  by_cases h : i ≤ xs.length
  · rw [Nat.min_eq_left h]
    rw [List.take_eq_take_iff, List.length_drop]
    omega
  · rw [List.drop_eq_nil_of_le (show xs.length ≤ min i xs.length by omega), List.drop_eq_nil_of_le (show xs.length ≤ i by omega)]
    simp
theorem cut_lo {xs : List α} {i : Nat} : cutD xs none (some (i : Int)) = xs.take i := by
  unfold cutD
  rw [slIx_nat]
  simp only [slIx, List.drop_zero, Nat.sub_zero]
  rw [List.take_eq_take_iff]
  omega
theorem cut_hi {xs : List α} {i : Nat} : cutD xs (some (i : Int)) none = xs.drop i := by
  unfold cutD
  rw [slIx_nat]
  simp only [slIx]
  by_cases h : i ≤ xs.length
  · rw [Nat.min_eq_left h, List.take_of_length_le (by simp)]
  · rw [List.drop_eq_nil_of_le (show xs.length ≤ min i xs.length by omega), List.drop_eq_nil_of_le (show xs.length ≤ i by omega)]
    simp
theorem eqv_strs : ∀ (l w : List Str), D.eqvL (l.map D.str) (w.map D.str) = decide (l = w)
  | [], [] => by simp
  | [], _ :: _ => by simp
  | _ :: _, [] => by simp
  | a :: l, b :: w => by
    simp only [List.map_cons, eqvL_cons, eqv_str_str, eqv_strs l w, List.cons.injEq]
    by_cases h : a = b <;> simp [h]
theorem eq_strs {l w : List Str} (hl : l.all PyData.strOk = true) (hw : w.all PyData.strOk = true) : cmpOp .Eq S (.lst (l.map D.str)) (.lst (w.map D.str)) = some (decide (l = w)) := by
  have hk : eqOk (.lst (l.map D.str)) (.lst (w.map D.str)) = true := by
    unfold eqOk
    rw [ok_lst, ok_lst, okL_strs hl, okL_strs hw]
    simp only [D.depth, depthL_strs, Bool.and_self, Bool.true_and]
    rfl
  rw [cmp_eq, flat_lst, flat_lst, hk, eqv_lst_lst, eqv_strs]
  rfl
theorem ne_strs {l w : List Str} (hl : l.all PyData.strOk = true) (hw : w.all PyData.strOk = true) : cmpOp .NotEq S (.lst (l.map D.str)) (.lst (w.map D.str)) = some (!decide (l = w)) := by
  have hk : eqOk (.lst (l.map D.str)) (.lst (w.map D.str)) = true := by
    unfold eqOk
    rw [ok_lst, ok_lst, okL_strs hl, okL_strs hw]
    simp only [D.depth, depthL_strs, Bool.and_self, Bool.true_and]
    rfl
  rw [cmp_ne, flat_lst, flat_lst, hk, eqv_lst_lst, eqv_strs]
  rfl
end
/-- a row of the law: texts, "x" where a part stood -/
def tkS (s : Str) : Tk := if s = "x" then .x else tk (.str s)
def sg : D → Str
  | .str s => s
  | _ => "x"
theorem tk_sg {d : D} (h : rowSign d = true) : tkS (sg d) = tk d := by
  cases d <;> simp only [rowSign] at h <;> first | (cases h; done) | skip
  · rename_i x
    simp only [List.any_cons, List.any_nil, Bool.or_false, Bool.or_eq_true, beq_iff_eq] at h
    have : x ≠ "x" := by
      rintro rfl
      revert h
      decide +kernel
    show (if x = "x" then Tk.x else tk (.str x)) = _
    rw [if_neg this]
  · show (if ("x" : Str) = "x" then Tk.x else tk (.str "x")) = Tk.x
    rw [if_pos rfl]
end NW
end
section
/- One turn of the law's reader of rows. -/
namespace NW
open PySem
def JO : List Str := ["and", "or", "unless", "onlyif"]
def st1 (rs : List Str) (i : Nat) : List Str := if (rs.drop i).take 2 = [("not" : Str), "x"] then rs.take i ++ ("x" : Str) :: rs.drop (i + 2) else rs
def st2 (rs : List Str) (i : Nat) : List Str := if (rs.drop i).take 3 = [("(" : Str), "x", ")"] then rs.take i ++ ("x" : Str) :: rs.drop (i + 3) else rs
def jnt (rs : List Str) (i : Nat) : Bool := match rs[i]? with
  | some x => JO.any fun w => w == x
  | none => false
def st3 (rs : List Str) (i : Nat) : List Str := if ((rs.drop i).take 1 = [("x" : Str)] ∧ (rs.drop (i + 2)).take 1 = [("x" : Str)]) ∧ jnt rs (i + 1) = true then rs.take i ++ ("x" : Str) :: rs.drop (i + 3) else rs
section
variable {C : Calls} {S : Store} {N Bk : Env → Store → Prop} {Rt : D → Store → Prop} {rs : List Str} {i : Nat} {a0 a2 a4 : Option D}
theorem cuts {m : Nat} : cutD (rs.map D.str) (some (i : Int)) (some ((i : Int) + (m : Int))) = ((rs.drop i).take m).map D.str := by
  rw [cut_mid, List.map_take, List.map_drop]
theorem cuts_lo : cutD (rs.map D.str) none (some (i : Int)) = (rs.take i).map D.str := by rw [cut_lo, List.map_take]
theorem cuts_hi {m : Nat} : cutD (rs.map D.str) (some ((i : Int) + (m : Int))) none = (rs.drop (i + m)).map D.str := by
  rw [show (i : Int) + (m : Int) = ((i + m : Nat) : Int) by omega, cut_hi, List.map_drop]
theorem ok_take {l : List Str} (h : l.all PyData.strOk = true) (a b : Nat) : ((l.drop a).take b).all PyData.strOk = true := by
  rw [List.all_eq_true] at h ⊢
  exact fun x hx => h x (List.mem_of_mem_drop (List.mem_of_mem_take hx))
theorem join_len {n : Nat} (h : rs.length ≤ 1000) : ((rs.take i).map D.str).length + [D.str "x"].length ≤ lineN ∧ ((rs.take i).map D.str ++ [D.str "x"]).length + ((rs.drop n).map D.str).length ≤ lineN := by
  have : lineN = 16777216 := rfl
  rw [this]
  simp
  omega
theorem do1 (h : rs.all PyData.strOk = true) (hl : rs.length ≤ 1000) (q : N [a0, some (.lst ((st1 rs i).map .str)), a2, some (.int i), a4] S) :
    SP (evS C (.ife (.cmp .Eq (.sl (.var 1) (.some (.var 3)) (.some (.bin .Add (.var 3) (.int 2)))) (.lst (.cons (.str "not") (.cons (.str "x") (.nil))))) (.cons (.set 1 (.bin .Add (.bin .Add (.sl (.var 1) (.none) (.some (.var 3))) (.lst (.cons (.str "x") (.nil)))) (.sl (.var 1) (.some (.bin .Add (.var 3) (.int 2))) (.none)))) (.nil)) (.nil))
      [a0, some (.lst (rs.map .str)), a2, some (.int i), a4] S) N Rt Bk := by
  have c2 : cutD (rs.map D.str) (some (i : Int)) (some ((i : Int) + 2)) = ((rs.drop i).take 2).map D.str := cuts (m := 2)
  have h2 : cutD (rs.map D.str) (some ((i : Int) + 2)) none = (rs.drop (i + 2)).map D.str := cuts_hi (m := 2)
  have he := eq_strs (S := S) (ok_take h i 2) (w := [("not" : Str), "x"]) (by decide +kernel)
  simp only [List.map_cons, List.map_nil] at he
  have jl := join_len (rs := rs) (i := i) (n := i + 2) hl
  by_cases hc : (rs.drop i).take 2 = [("not" : Str), "x"]
  · rw [decide_eq_true hc] at he
    have q' : N [a0, some (.lst ((rs.take i ++ ("x" : Str) :: rs.drop (i + 2)).map .str)), a2, some (.int i), a4] S := by simpa only [st1, if_pos hc] using q
    simp [-Bool.exists_bool, -List.map_take, -List.map_drop, and_assoc, c2, h2, he, cuts_lo, setV, lineN]
    refine ⟨by omega, by omega, ?_⟩
    simpa using q'
  · rw [decide_eq_false hc] at he
    have q' : N [a0, some (.lst (rs.map .str)), a2, some (.int i), a4] S := by simpa only [st1, if_neg hc] using q
    simp [-Bool.exists_bool, -List.map_take, -List.map_drop, c2, he, q', lineN]
theorem do2 (h : rs.all PyData.strOk = true) (hl : rs.length ≤ 1000) (q : N [a0, some (.lst ((st2 rs i).map .str)), a2, some (.int i), a4] S) :
    SP (evS C (.ife (.cmp .Eq (.sl (.var 1) (.some (.var 3)) (.some (.bin .Add (.var 3) (.int 3)))) (.lst (.cons (.str "(") (.cons (.str "x") (.cons (.str ")") (.nil)))))) (.cons (.set 1 (.bin .Add (.bin .Add (.sl (.var 1) (.none) (.some (.var 3))) (.lst (.cons (.str "x") (.nil)))) (.sl (.var 1) (.some (.bin .Add (.var 3) (.int 3))) (.none)))) (.nil)) (.nil))
      [a0, some (.lst (rs.map .str)), a2, some (.int i), a4] S) N Rt Bk := by
  have c2 : cutD (rs.map D.str) (some (i : Int)) (some ((i : Int) + 3)) = ((rs.drop i).take 3).map D.str := cuts (m := 3)
  have h2 : cutD (rs.map D.str) (some ((i : Int) + 3)) none = (rs.drop (i + 3)).map D.str := cuts_hi (m := 3)
  have he := eq_strs (S := S) (ok_take h i 3) (w := [("(" : Str), "x", ")"]) (by decide +kernel)
  simp only [List.map_cons, List.map_nil] at he
  have jl := join_len (rs := rs) (i := i) (n := i + 3) hl
  by_cases hc : (rs.drop i).take 3 = [("(" : Str), "x", ")"]
  · rw [decide_eq_true hc] at he
    have q' : N [a0, some (.lst ((rs.take i ++ ("x" : Str) :: rs.drop (i + 3)).map .str)), a2, some (.int i), a4] S := by simpa only [st2, if_pos hc] using q
    simp [-Bool.exists_bool, -List.map_take, -List.map_drop, and_assoc, c2, h2, he, cuts_lo, setV, lineN]
    refine ⟨by omega, by omega, ?_⟩
    simpa using q'
  · rw [decide_eq_false hc] at he
    have q' : N [a0, some (.lst (rs.map .str)), a2, some (.int i), a4] S := by simpa only [st2, if_neg hc] using q
    simp [-Bool.exists_bool, -List.map_take, -List.map_drop, c2, he, q', lineN]

theorem take1 {l : List Str} (h : l.take 1 = [("x" : Str)]) : ∃ r, l = ("x" : Str) :: r := by
  match l, h with
  | a :: r, h =>
    simp at h
    exact ⟨r, by rw [h]⟩
theorem do3 {T : Nat → Option FD} (h22 : Is T 22 f__law_joints) {k : Nat} (h : rs.all PyData.strOk = true) (hl : rs.length ≤ 1000) (q : N [a0, some (.lst ((st3 rs i).map .str)), a2, some (.int i), a4] S) :
    SP (evS (callN T (k + 1)) (.ife (.and (.cons (.cmp .Eq (.sl (.var 1) (.some (.var 3)) (.some (.bin .Add (.var 3) (.int 1)))) (.lst (.cons (.str "x") (.nil)))) (.cons (.cmp .Eq (.sl (.var 1) (.some (.bin .Add (.var 3) (.int 2))) (.some (.bin .Add (.var 3) (.int 3)))) (.lst (.cons (.str "x") (.nil)))) (.cons (.cmp .In (.idx (.var 1) (.bin .Add (.var 3) (.int 1))) (.call 22 (.nil))) (.nil))))) (.cons (.set 1 (.bin .Add (.bin .Add (.sl (.var 1) (.none) (.some (.var 3))) (.lst (.cons (.str "x") (.nil)))) (.sl (.var 1) (.some (.bin .Add (.var 3) (.int 3))) (.none)))) (.nil)) (.nil))
      [a0, some (.lst (rs.map .str)), a2, some (.int i), a4] S) N Rt Bk := by
  have c1 : cutD (rs.map D.str) (some (i : Int)) (some ((i : Int) + 1)) = ((rs.drop i).take 1).map D.str := cuts (m := 1)
  have c2 : cutD (rs.map D.str) (some ((i : Int) + 2)) (some ((i : Int) + 3)) = ((rs.drop (i + 2)).take 1).map D.str := by
    have := cuts (rs := rs) (i := i + 2) (m := 1)
    simpa [Int.add_assoc] using this
  have h2 : cutD (rs.map D.str) (some ((i : Int) + 3)) none = (rs.drop (i + 3)).map D.str := cuts_hi (m := 3)
  have he := eq_strs (S := S) (ok_take h i 1) (w := [("x" : Str)]) (by decide +kernel)
  have he2 := eq_strs (S := S) (ok_take h (i + 2) 1) (w := [("x" : Str)]) (by decide +kernel)
  simp only [List.map_cons, List.map_nil] at he he2
  have jo : callN T (k + 1) 22 [] S = .ok (.lst (JO.map .str)) S := by
    refine EP_pure (EP_call h22 rfl rfl ?_)
    simp [f__law_joints, b__law_joints, JO, lineN]
  by_cases hc : (rs.drop i).take 1 = [("x" : Str)]
  · rw [decide_eq_true hc] at he
    by_cases hc2 : (rs.drop (i + 2)).take 1 = [("x" : Str)]
    · rw [decide_eq_true hc2] at he2
      have hi : i + 1 < rs.length := by
        obtain ⟨r, e⟩ := take1 hc2
        have := congrArg List.length e
        simp at this
        omega
      have hix : atD (rs.map D.str) ((i : Int) + 1) = some (.str rs[i + 1]) := by
        have := atD_nat (ds := rs.map D.str) (k := i + 1) (by simpa using hi)
        simpa using this
      have hin := in_signL (S := S) (v := .str rs[i + 1]) (ws := JO) (by
        rw [List.all_eq_true] at h
        simpa only [D.ok] using h _ (List.getElem_mem hi)) (by decide +kernel)
      by_cases hj : jnt rs (i + 1) = true
      · have hj2 : isIn JO (.str rs[i + 1]) = true := by simpa only [jnt, List.getElem?_eq_getElem hi, isIn] using hj
        rw [hj2] at hin
        have q' : N [a0, some (.lst ((rs.take i ++ ("x" : Str) :: rs.drop (i + 3)).map .str)), a2, some (.int i), a4] S := by simpa only [st3, if_pos (show ((rs.drop i).take 1 = [("x" : Str)] ∧ (rs.drop (i + 2)).take 1 = [("x" : Str)]) ∧ jnt rs (i + 1) = true from ⟨⟨hc, hc2⟩, hj⟩)] using q
        simp [-Bool.exists_bool, -List.map_take, -List.map_drop, and_assoc, c1, c2, h2, he, he2, cuts_lo, setV, lineN, hix, jo, hin]
        refine ⟨by omega, by omega, ?_⟩
        simpa using q'
      · have hj2 : isIn JO (.str rs[i + 1]) = false := by
          rw [Bool.eq_false_iff]
          simpa only [jnt, List.getElem?_eq_getElem hi, isIn] using hj
        rw [hj2] at hin
        have q' : N [a0, some (.lst (rs.map .str)), a2, some (.int i), a4] S := by simpa only [st3, if_neg (show ¬ (((rs.drop i).take 1 = [("x" : Str)] ∧ (rs.drop (i + 2)).take 1 = [("x" : Str)]) ∧ jnt rs (i + 1) = true) from fun z => hj z.2)] using q
        simp [-Bool.exists_bool, -List.map_take, -List.map_drop, and_assoc, c1, c2, he, he2, lineN, hix, jo, hin, q']
    · rw [decide_eq_false hc2] at he2
      have q' : N [a0, some (.lst (rs.map .str)), a2, some (.int i), a4] S := by simpa only [st3, if_neg (show ¬ (((rs.drop i).take 1 = [("x" : Str)] ∧ (rs.drop (i + 2)).take 1 = [("x" : Str)]) ∧ jnt rs (i + 1) = true) from fun z => hc2 z.1.2)] using q
      simp [-Bool.exists_bool, -List.map_take, -List.map_drop, and_assoc, c1, c2, he, he2, lineN, q']
  · rw [decide_eq_false hc] at he
    have q' : N [a0, some (.lst (rs.map .str)), a2, some (.int i), a4] S := by simpa only [st3, if_neg (show ¬ (((rs.drop i).take 1 = [("x" : Str)] ∧ (rs.drop (i + 2)).take 1 = [("x" : Str)]) ∧ jnt rs (i + 1) = true) from fun z => hc z.1.1)] using q
    simp [-Bool.exists_bool, -List.map_take, -List.map_drop, c1, he, q', lineN]
end
end NW
end
section
/- What one turn keeps. -/
namespace NW
open PySem
/-- a turn at i: what the row means stays; it gets shorter, or stays as it is and holds no redex at i -/
structure Turn (rs rs' : List Str) (P : Prop) : Prop where
  same : ∀ d q, acc d q (rs'.map tkS) = acc d q (rs.map tkS)
  ok : rs.all PyData.strOk = true → rs'.all PyData.strOk = true
  mem : ∀ s ∈ rs', s = "x" ∨ s ∈ rs
  less : rs'.length < rs.length ∨ (rs' = rs ∧ P)
theorem Turn.trans {a b c : List Str} {P Q : Prop} (x : Turn a b P) (y : Turn b c Q) (h : b = a → Q → P → Q) : Turn a c (P ∧ Q) :=
  ⟨fun d q => (y.same d q).trans (x.same d q), fun h => y.ok (x.ok h), fun s hs => (y.mem s hs).elim .inl (x.mem s), by
    rcases x.less with h1 | ⟨e1, p⟩
    · rcases y.less with h2 | ⟨e2, q⟩
      · exact .inl (by omega)
      · exact .inl (by rw [e2]; exact h1)
    · subst e1
      rcases y.less with h2 | ⟨e2, q⟩
      · exact .inl h2
      · exact .inr ⟨e2, p, q⟩⟩
theorem cut_turn {rs : List Str} {i m : Nat} {w : List Str} (hw : (rs.drop i).take m = w) (hm : w.length = m) (h1 : 1 < m) (ha : ∀ v d q, acc d q (w.map tkS ++ v) = acc d q (.x :: v)) (P : Prop) : Turn rs (rs.take i ++ ("x" : Str) :: rs.drop (i + m)) P := by
  have e : rs = rs.take i ++ (w ++ rs.drop (i + m)) := by
    have := List.take_append_drop m (rs.drop i)
    rw [hw, List.drop_drop] at this
    rw [this, List.take_append_drop]
  have hx : tkS "x" = .x := by decide +kernel
  refine ⟨fun d q => ?_, fun h => ?_, fun y hy => ?_, .inl ?_⟩
  · have e2 : rs.map tkS = (rs.take i).map tkS ++ (w.map tkS ++ (rs.drop (i + m)).map tkS) := by
      rw [← List.map_append, ← List.map_append, ← e]
    rw [e2, List.map_append, List.map_cons, hx]
    exact acc_app (fun d q => (ha _ d q).symm) _ d q
  · rw [List.all_eq_true] at h ⊢
    intro y hy
    rcases List.mem_append.mp hy with hy | hy
    · exact h y (List.mem_of_mem_take hy)
    · rcases List.mem_cons.mp hy with rfl | hy
      · decide +kernel
      · exact h y (List.mem_of_mem_drop hy)
  · rcases List.mem_append.mp hy with hy | hy
    · exact .inr (List.mem_of_mem_take hy)
    · rcases List.mem_cons.mp hy with rfl | hy
      · exact .inl rfl
      · exact .inr (List.mem_of_mem_drop hy)
  · have hl : (w.length) ≤ (rs.drop i).length := by rw [← hw, List.length_take]; omega
    rw [hm, List.length_drop] at hl
    rw [List.length_append, List.length_cons, List.length_take, List.length_drop]
    omega
theorem Turn.stay {rs : List Str} {P : Prop} (p : P) : Turn rs rs P := ⟨fun _ _ => rfl, id, fun _ h => .inr h, .inr ⟨rfl, p⟩⟩
theorem st1_turn (rs : List Str) (i : Nat) : Turn rs (st1 rs i) ((rs.drop i).take 2 ≠ [("not" : Str), "x"]) := by
  unfold st1
  by_cases h : (rs.drop i).take 2 = [("not" : Str), "x"]
  · rw [if_pos h]
    have e1 : tkS "not" = .nt := by decide +kernel
    have e2 : tkS "x" = .x := by decide +kernel
    exact cut_turn h rfl (by decide) (fun v d q => by simp only [List.map_cons, List.map_nil, e1, e2, List.cons_append, List.nil_append]; exact acc_not v d q) _
  · rw [if_neg h]
    exact .stay h
theorem st2_turn (rs : List Str) (i : Nat) : Turn rs (st2 rs i) ((rs.drop i).take 3 ≠ [("(" : Str), "x", ")"]) := by
  unfold st2
  by_cases h : (rs.drop i).take 3 = [("(" : Str), "x", ")"]
  · rw [if_pos h]
    have e1 : tkS "(" = .lp := by decide +kernel
    have e3 : tkS ")" = .rp := by decide +kernel
    have e2 : tkS "x" = .x := by decide +kernel
    exact cut_turn h rfl (by decide) (fun v d q => by simp only [List.map_cons, List.map_nil, e1, e2, e3, List.cons_append, List.nil_append]; exact acc_par v d q) _
  · rw [if_neg h]
    exact .stay h
theorem jo_tk {x : Str} (h : (JO.any fun w => w == x) = true) : tkS x = .jt := by
  simp only [JO, List.any_cons, List.any_nil, Bool.or_false, Bool.or_eq_true, beq_iff_eq] at h
  rcases h with h | h | h | h <;> subst h <;> decide +kernel
theorem st3_turn (rs : List Str) (i : Nat) : Turn rs (st3 rs i) (¬ (((rs.drop i).take 1 = [("x" : Str)] ∧ (rs.drop (i + 2)).take 1 = [("x" : Str)]) ∧ jnt rs (i + 1) = true)) := by
  unfold st3
  by_cases h : ((rs.drop i).take 1 = [("x" : Str)] ∧ (rs.drop (i + 2)).take 1 = [("x" : Str)]) ∧ jnt rs (i + 1) = true
  · rw [if_pos h]
    obtain ⟨⟨h1, h2⟩, h3⟩ := h
    obtain ⟨r1, e1⟩ := take1 h1
    obtain ⟨r2, e2⟩ := take1 h2
    obtain ⟨y, hy, hj⟩ : ∃ y, rs[i + 1]? = some y ∧ (JO.any fun w => w == y) = true := by
      unfold jnt at h3
      split at h3
      · rename_i y hy; exact ⟨y, hy, h3⟩
      · cases h3
    have hy1 : i + 1 < rs.length := (List.getElem?_eq_some_iff.mp hy).1
    have hd1 : rs.drop (i + 1) = y :: rs.drop (i + 2) := by
      rw [List.drop_eq_getElem_cons hy1]
      rw [(List.getElem?_eq_some_iff.mp hy).2]
    have hd0 : rs.drop i = ("x" : Str) :: rs.drop (i + 1) := by
      have hi : i < rs.length := by omega
      have := List.drop_eq_getElem_cons hi
      rw [this] at e1 ⊢
      rw [(List.cons.inj e1).1]
    have hw : (rs.drop i).take 3 = [("x" : Str), y, "x"] := by
      rw [hd0, hd1, e2]
      rfl
    have ex : tkS "x" = .x := by decide +kernel
    exact cut_turn hw rfl (by decide) (fun v d q => by simp only [List.map_cons, List.map_nil, ex, jo_tk hj, List.cons_append, List.nil_append]; exact acc_jnt v d q) _
  · rw [if_neg h]
    exact .stay h
end NW
end
section
/- The law's reader of rows: a turn. -/
namespace NW
open PySem
def NoRed (rs : List Str) (i : Nat) : Prop := (rs.drop i).take 2 ≠ [("not" : Str), "x"] ∧ (rs.drop i).take 3 ≠ [("(" : Str), "x", ")"] ∧ ¬ (((rs.drop i).take 1 = [("x" : Str)] ∧ (rs.drop (i + 2)).take 1 = [("x" : Str)]) ∧ jnt rs (i + 1) = true)
def turn (rs : List Str) (i : Nat) : List Str := st3 (st2 (st1 rs i) i) i
theorem turn_ok (rs : List Str) (i : Nat) : Turn rs (turn rs i) (NoRed rs i) := by
  have t1 := st1_turn rs i
  have t2 := st2_turn (st1 rs i) i
  have t3 := st3_turn (st2 (st1 rs i) i) i
  refine ⟨fun d q => ((t3.same d q).trans (t2.same d q)).trans (t1.same d q), fun h => t3.ok (t2.ok (t1.ok h)), fun s hs => (t3.mem s hs).elim .inl fun hs => (t2.mem s hs).elim .inl (t1.mem s), ?_⟩
  unfold turn
  rcases t1.less with h1 | ⟨e1, p1⟩
  · left
    rcases t2.less with h2 | ⟨e2, p2⟩
    · rcases t3.less with h3 | ⟨e3, p3⟩
      · omega
      · rw [e3]; omega
    · rcases t3.less with h3 | ⟨e3, p3⟩
      · rw [e2] at h3 ⊢; omega
      · rw [e3, e2]; exact h1
  · rw [e1] at t2 t3 ⊢
    rcases t2.less with h2 | ⟨e2, p2⟩
    · left
      rcases t3.less with h3 | ⟨e3, p3⟩
      · omega
      · rw [e3]; exact h2
    · rw [e2] at t3 ⊢
      rcases t3.less with h3 | ⟨e3, p3⟩
      · exact .inl h3
      · exact .inr ⟨e3, p1, p2, p3⟩
/-- no redex at any place -/
theorem nr_rows {rs : List Str} (hr : ∀ s ∈ rs, tkS s = .nt → s = "not") (hl : ∀ s ∈ rs, tkS s = .lp → s = "(") (hp : ∀ s ∈ rs, tkS s = .rp → s = ")") (hj : ∀ s ∈ rs, tkS s = .jt → (JO.any fun w => w == s) = true) (hx : ∀ s ∈ rs, tkS s = .x → s = "x")
    (h : ∀ i, i < rs.length → NoRed rs i) : NR (rs.map tkS) := by
  have key : ∀ (u v : List Tk) (t : Tk), rs.map tkS = u ++ t :: v → ∃ s, rs.drop u.length = s :: rs.drop (u.length + 1) ∧ s ∈ rs ∧ tkS s = t ∧ u.length < rs.length ∧ rs[u.length]? = some s ∧ (rs.drop (u.length + 1)).map tkS = v := by
    intro u v t e
    have hl : u.length < rs.length := by
      have := congrArg List.length e
      simp at this
      omega
    have hd : rs.drop u.length = rs[u.length] :: rs.drop (u.length + 1) := List.drop_eq_getElem_cons hl
    have e2 : (rs.drop u.length).map tkS = t :: v := by rw [List.map_drop, e, List.drop_left]
    rw [hd, List.map_cons, List.cons.injEq] at e2
    exact ⟨rs[u.length], hd, List.getElem_mem hl, e2.1, hl, List.getElem?_eq_getElem hl, e2.2⟩
  refine nr_of (fun u v e => ?_) (fun u v e => ?_) (fun u v e => ?_)
  · obtain ⟨s, hd, hm, ht, hlen, _, _⟩ := key u (.x :: v) .nt e
    obtain ⟨s2, hd2, hm2, ht2, _, _, _⟩ := key (u ++ [.nt]) v .x (by rw [e]; simp)
    rw [List.length_append, List.length_singleton] at hd2
    refine (h u.length hlen).1 ?_
    rw [hd, hd2, hr s hm ht, hx s2 hm2 ht2]
    rfl
  · obtain ⟨s, hd, hm, ht, hlen, _, _⟩ := key u (.x :: .rp :: v) .lp e
    obtain ⟨s2, hd2, hm2, ht2, _, _, _⟩ := key (u ++ [.lp]) (.rp :: v) .x (by rw [e]; simp)
    obtain ⟨s3, hd3, hm3, ht3, _, _, _⟩ := key (u ++ [.lp, .x]) v .rp (by rw [e]; simp)
    rw [List.length_append, List.length_singleton] at hd2
    rw [List.length_append] at hd3
    refine (h u.length hlen).2.1 ?_
    have hd3' : rs.drop (u.length + 1 + 1) = s3 :: rs.drop (u.length + 2 + 1) := hd3
    rw [hd, hd2, hd3', hl s hm ht, hx s2 hm2 ht2, hp s3 hm3 ht3]
    rfl
  · obtain ⟨s, hd, hm, ht, hlen, _, _⟩ := key u (.jt :: .x :: v) .x e
    obtain ⟨s2, hd2, hm2, ht2, _, hg2, _⟩ := key (u ++ [.x]) (.x :: v) .jt (by rw [e]; simp)
    obtain ⟨s3, hd3, hm3, ht3, _, _, _⟩ := key (u ++ [.x, .jt]) v .x (by rw [e]; simp)
    rw [List.length_append, List.length_singleton] at hd2 hg2
    rw [List.length_append] at hd3
    have hd3' : rs.drop (u.length + 2) = s3 :: rs.drop (u.length + 2 + 1) := hd3
    refine (h u.length hlen).2.2 ⟨⟨?_, ?_⟩, ?_⟩
    · rw [hd, hx s hm ht]; rfl
    · rw [hd3', hx s3 hm3 ht3]; rfl
    · unfold jnt
      rw [hg2]
      exact hj s2 hm2 ht2
end NW
end
section
/- The law's reader of rows: a pass. -/
namespace NW
open PySem
def w1 : S := .ife (.cmp .Eq (.sl (.var 1) (.some (.var 3)) (.some (.bin .Add (.var 3) (.int 2)))) (.lst (.cons (.str "not") (.cons (.str "x") (.nil))))) (.cons (.set 1 (.bin .Add (.bin .Add (.sl (.var 1) (.none) (.some (.var 3))) (.lst (.cons (.str "x") (.nil)))) (.sl (.var 1) (.some (.bin .Add (.var 3) (.int 2))) (.none)))) (.nil)) (.nil)
def w2 : S := .ife (.cmp .Eq (.sl (.var 1) (.some (.var 3)) (.some (.bin .Add (.var 3) (.int 3)))) (.lst (.cons (.str "(") (.cons (.str "x") (.cons (.str ")") (.nil)))))) (.cons (.set 1 (.bin .Add (.bin .Add (.sl (.var 1) (.none) (.some (.var 3))) (.lst (.cons (.str "x") (.nil)))) (.sl (.var 1) (.some (.bin .Add (.var 3) (.int 3))) (.none)))) (.nil)) (.nil)
def w3 : S := .ife (.and (.cons (.cmp .Eq (.sl (.var 1) (.some (.var 3)) (.some (.bin .Add (.var 3) (.int 1)))) (.lst (.cons (.str "x") (.nil)))) (.cons (.cmp .Eq (.sl (.var 1) (.some (.bin .Add (.var 3) (.int 2))) (.some (.bin .Add (.var 3) (.int 3)))) (.lst (.cons (.str "x") (.nil)))) (.cons (.cmp .In (.idx (.var 1) (.bin .Add (.var 3) (.int 1))) (.call 22 (.nil))) (.nil))))) (.cons (.set 1 (.bin .Add (.bin .Add (.sl (.var 1) (.none) (.some (.var 3))) (.lst (.cons (.str "x") (.nil)))) (.sl (.var 1) (.some (.bin .Add (.var 3) (.int 3))) (.none)))) (.nil)) (.nil)
def wf : S := .for_ (.name 3) (.rng (.cb .len (.cons (.var 1) (.nil)))) (.cons w1 (.cons w2 (.cons w3 (.nil))))
theorem turn_len {rs rs' : List Str} {P : Prop} (t : Turn rs rs' P) : rs'.length ≤ rs.length := by
  rcases t.less with h | ⟨rfl, _⟩
  · omega
  · exact Nat.le_refl _
theorem rngD_drop {n j : Nat} : (rngD 0 n).drop j = if j < n then D.int (j : Int) :: (rngD 0 n).drop (j + 1) else [] := by
  have hl : (rngD 0 n).length = n := by simp [rngD]
  by_cases h : j < n
  · rw [if_pos h, List.drop_eq_getElem_cons (by omega)]
    simp [rngD]
  · rw [if_neg h, List.drop_eq_nil_of_le (by omega)]
theorem pass_ok {T : Nat → Option FD} (h22 : Is T 22 f__law_joints) {k : Nat} {S : Store} {Bk : Env → Store → Prop} {Rt : D → Store → Prop} {rs : List Str} {a0 a2 a3 a4 : Option D} (h : rs.all PyData.strOk = true) (hl : rs.length ≤ 1000) :
    SP (evS (callN T (k + 1)) wf [a0, some (.lst (rs.map .str)), a2, a3, a4] S) (fun G S' => S' = S ∧ ∃ rs' a3', G = [a0, some (.lst (rs'.map .str)), a2, a3', a4] ∧ Turn rs rs' (∀ i, i < rs.length → NoRed rs i)) Rt Bk := by
  unfold wf
  have hr : rngOk 0 (rs.length : Int) = true := by
    unfold rngOk
    rw [decide_eq_true_eq]
    omega
  simp [-Bool.exists_bool, hr]
  refine SP_forGo (fun xs G S' => S' = S ∧ ∃ (j : Nat) (rs' : List Str) (a3' : Option D), G = [a0, some (.lst (rs'.map .str)), a2, a3', a4] ∧ xs = (rngD 0 rs.length).drop j ∧ Turn rs rs' (∀ i, i < j → NoRed rs i)) (fun _ _ _ _ => rfl) ?_ ?_ _ _ _ ⟨rfl, 0, rs, a3, rfl, rfl, .stay (fun i hi => absurd hi (Nat.not_lt_zero _))⟩
  · rintro G S' ⟨rfl, j, rs', a3', rfl, e, t⟩
    refine ⟨rfl, rs', ⟨a3', rfl⟩, ?_⟩
    rw [rngD_drop] at e
    split at e
    · cases e
    · exact ⟨t.same, t.ok, t.mem, t.less.imp id fun ⟨e, p⟩ => ⟨e, fun i hi => p i (by omega)⟩⟩
  · rintro x xs G S' ⟨rfl, j, rs', a3', rfl, e, t⟩
    rw [rngD_drop] at e
    split at e
    case isFalse => cases e
    rename_i hj
    cases e
    refine ⟨_, rfl, ?_⟩
    have ho := t.ok h
    have hl' := turn_len t
    have t1 := st1_turn rs' j
    have t2 := st2_turn (st1 rs' j) j
    have tt := turn_ok rs' j
    simp only [SP_cons, SP_nil, setV, List.set_cons_succ, List.set_cons_zero]
    refine do1 ho (by omega) (do2 (t1.ok ho) (by have := turn_len t1; omega) (do3 h22 (t2.ok (t1.ok ho)) (by have := turn_len t1; have := turn_len t2; omega) ?_))
    refine ⟨rfl, j + 1, turn rs' j, some (.int j), rfl, rfl, ?_⟩
    refine ⟨fun d q => (tt.same d q).trans (t.same d q), fun h => tt.ok (t.ok h), fun s hs => (tt.mem s hs).elim .inl (t.mem s), ?_⟩
    rcases t.less with g1 | ⟨e1, g1⟩
    · have := turn_len tt
      exact .inl (by omega)
    · subst e1
      rcases tt.less with g2 | ⟨e2, g2⟩
      · exact .inl g2
      · refine .inr ⟨e2, fun i hi => ?_⟩
        by_cases hij : i < j
        · exact g1 i hij
        · have : i = j := by omega
          subst this
          exact g2
end NW
end
section
/- The law's reader of rows. -/
namespace NW
open PySem
theorem ne_non {S : Store} {l : List Str} (hl : l.all PyData.strOk = true) : cmpOp .NotEq S .non (.lst (l.map D.str)) = some true := by
  have hk : eqOk .non (.lst (l.map D.str)) = true := by
    unfold eqOk
    rw [ok_lst, okL_strs hl]
    simp [D.ok, D.depth]
  rw [cmp_ne, flat_non, flat_lst, hk]
  simp [D.eqv]
def WN (S : Store) (rs : List Str) (a0 a4 : Option D) (G : Env) (S' : Store) : Prop := S' = S ∧ ∃ rs' a2' a3', G = [a0, some (.lst (rs'.map .str)), a2', a3', a4] ∧ rs'.all PyData.strOk = true ∧ (∀ d q, acc d q (rs'.map tkS) = acc d q (rs.map tkS)) ∧ (∀ s ∈ rs', s = ("x" : Str) ∨ s ∈ rs) ∧ ∀ i, i < rs'.length → NoRed rs' i
def WI (S : Store) (rs : List Str) (a0 a4 : Option D) (n : Nat) (G : Env) (S' : Store) : Prop := S' = S ∧ ∃ (rs' : List Str) (o : D) (a3' : Option D), G = [a0, some (.lst (rs'.map .str)), some o, a3', a4] ∧ rs'.all PyData.strOk = true ∧ rs'.length ≤ 1000 ∧ (∀ d q, acc d q (rs'.map tkS) = acc d q (rs.map tkS)) ∧ (∀ s ∈ rs', s = ("x" : Str) ∨ s ∈ rs) ∧
      ((o = .non ∧ n = rs'.length + 1) ∨ ∃ old : List Str, o = .lst (old.map .str) ∧ old.all PyData.strOk = true ∧ ((old = rs' ∧ n = 0 ∧ ∀ i, i < rs'.length → NoRed rs' i) ∨ (old ≠ rs' ∧ n = rs'.length + 1)))
theorem while_ok {T : Nat → Option FD} (h22 : Is T 22 f__law_joints) {k : Nat} {S : Store} {Bk : Env → Store → Prop} {Rt : D → Store → Prop} {rs : List Str} {a0 a3 a4 : Option D} (h : rs.all PyData.strOk = true) (hl : rs.length ≤ 1000) :
    SP (evS (callN T (k + 1)) (.whl (.cmp .NotEq (.var 2) (.var 1)) (.cons (.set 2 (.cb .list (.cons (.var 1) (.nil)))) (.cons wf (.nil)))) [a0, some (.lst (rs.map .str)), some .non, a3, a4] S) (WN S rs a0 a4) Rt Bk := by
  refine SP_whl (WI S rs a0 a4) (n := rs.length + 1) (by show _ < 1048576; omega) ⟨rfl, rs, .non, a3, rfl, h, hl, fun _ _ => rfl, fun _ h => .inr h, .inl ⟨rfl, rfl⟩⟩ ?_
  rintro n G S' ⟨rfl, rs', o, a3', rfl, ho, hl', hs, hm, ht⟩
  have go : n = rs'.length + 1 → SP (evSs (callN T (k + 1)) (.cons (.set 2 (.cb .list (.cons (.var 1) (.nil)))) (.cons wf (.nil))) [a0, some (.lst (rs'.map .str)), some o, a3', a4] S') (fun G2 S2 => ∃ m, m < n ∧ WI S' rs a0 a4 m G2 S2) Rt (WN S' rs a0 a4) := fun hn => by
    refine SP_cons.mpr (SP_set.mpr ?_)
    have e1 : evE (callN T (k + 1)) (.cb .list (.cons (.var 1) (.nil))) [a0, some (.lst (rs'.map .str)), some o, a3', a4] S' = .ok (.lst (rs'.map .str)) S' := EP_pure (by simp)
    rw [e1]
    refine EP_ok.mpr ?_
    refine SP_cons.mpr ?_
    have e2 : setV [a0, some (.lst (rs'.map .str)), some o, a3', a4] 2 (.lst (rs'.map .str)) = [a0, some (.lst (rs'.map .str)), some (.lst (rs'.map .str)), a3', a4] := rfl
    rw [e2]
    have pk := pass_ok h22 (k := k) (S := S') (rs := rs') (a0 := a0) (a2 := some (.lst (rs'.map .str))) (a3 := a3') (a4 := a4) (Bk := fun _ _ => False) (Rt := fun _ _ => False) ho hl'
    refine SP.mono pk ?_ (fun _ _ z => z.elim) (fun _ _ z => z.elim)
    rintro G S2 ⟨e, r2, a3'', e2, t⟩
    subst e
    subst e2
    refine SP_nil.mpr ?_
    have hl2 := turn_len t
    rcases t.less with g | ⟨e, g⟩
    · exact ⟨r2.length + 1, by omega, rfl, r2, .lst (rs'.map .str), a3'', rfl, t.ok ho, by omega, fun d q => (t.same d q).trans (hs d q), fun s hs => (t.mem s hs).elim .inl (hm s), .inr ⟨rs', rfl, ho, .inr ⟨fun z => (by subst z; omega), rfl⟩⟩⟩
    · subst e
      exact ⟨0, by omega, rfl, r2, .lst (r2.map .str), a3'', rfl, t.ok ho, by omega, fun d q => (t.same d q).trans (hs d q), fun s hs => (t.mem s hs).elim .inl (hm s), .inr ⟨r2, rfl, ho, .inl ⟨rfl, rfl, g⟩⟩⟩
  have cond : ∀ b : Bool, cmpOp .NotEq S' o (.lst (rs'.map .str)) = some b → evE (callN T (k + 1)) (.cmp .NotEq (.var 2) (.var 1)) [a0, some (.lst (rs'.map .str)), some o, a3', a4] S' = .ok (.bl b) S' := fun b hb => EP_pure (by simp [-Bool.exists_bool, hb])
  rcases ht with ⟨rfl, hn⟩ | ⟨old, rfl, hold, ⟨rfl, hn, hr⟩ | ⟨hne, hn⟩⟩
  · rw [cond true (ne_non ho)]
    exact EP_ok.mpr (.inr ⟨rfl, go hn⟩)
  · rw [cond false (by rw [ne_strs ho ho]; simp)]
    exact EP_ok.mpr (.inl ⟨rfl, rfl, old, some (.lst (old.map .str)), a3', rfl, ho, hs, hm, hr⟩)
  · rw [cond true (by rw [ne_strs hold ho]; simp [hne])]
    exact EP_ok.mpr (.inr ⟨rfl, go hn⟩)
end NW
end
section
/- What the law's reader of rows answers. -/
namespace NW
open PySem
theorem sg_row {d : D} (h : rowSign d = true) : (sg d = "x" ∧ isTup d = true) ∨ (d = .str (sg d) ∧ isTup d = false ∧ (([("and" : Str), "or", "unless", "onlyif"].any fun w => w == sg d) || ([("not" : Str), "(", ")"].any fun w => w == sg d)) = true) := by
  cases d <;> simp only [rowSign] at h <;> first | (cases h; done) | skip
  · exact .inr ⟨rfl, rfl, h⟩
  · exact .inl ⟨rfl, rfl⟩
theorem sg_ok {d : D} (h : rowSign d = true) (ho : d.ok = true) : PyData.strOk (sg d) = true := by
  cases d <;> simp only [rowSign] at h <;> first | (cases h; done) | skip
  · rename_i x
    show PyData.strOk x = true
    simpa only [D.ok] using ho
  · show PyData.strOk "x" = true
    decide +kernel
theorem tkS_cases (s : Str) : (tkS s = .x ∧ s = "x") ∨ (tkS s = .nt ∧ s = "not") ∨ (tkS s = .lp ∧ s = "(") ∨ (tkS s = .rp ∧ s = ")") ∨ (tkS s = .jt ∧ s ≠ "x" ∧ s ≠ "not" ∧ s ≠ "(" ∧ s ≠ ")") := by
  unfold tkS tk
  by_cases h1 : s = "x"
  · exact .inl ⟨by rw [if_pos h1], h1⟩
  rw [if_neg h1]
  show (_ ∧ _) ∨ ((if s = "not" then Tk.nt else if s = "(" then .lp else if s = ")" then .rp else .jt) = _ ∧ _) ∨ ((if s = "not" then Tk.nt else if s = "(" then .lp else if s = ")" then .rp else .jt) = _ ∧ _) ∨ ((if s = "not" then Tk.nt else if s = "(" then .lp else if s = ")" then .rp else .jt) = _ ∧ _) ∨ ((if s = "not" then Tk.nt else if s = "(" then .lp else if s = ")" then .rp else .jt) = _ ∧ _)
  by_cases h2 : s = "not"
  · exact .inr (.inl ⟨by rw [if_pos h2], h2⟩)
  rw [if_neg h2]
  by_cases h3 : s = "("
  · exact .inr (.inr (.inl ⟨by rw [if_pos h3], h3⟩))
  rw [if_neg h3]
  by_cases h4 : s = ")"
  · exact .inr (.inr (.inr (.inl ⟨by rw [if_pos h4], h4⟩)))
  rw [if_neg h4]
  exact .inr (.inr (.inr (.inr ⟨rfl, h1, h2, h3, h4⟩)))
theorem tkS_x {s : Str} (h : tkS s = .x) : s = "x" := by
  rcases tkS_cases s with ⟨e, h1⟩ | ⟨e, h1⟩ | ⟨e, h1⟩ | ⟨e, h1⟩ | ⟨e, h1⟩ <;> rw [e] at h <;> first | exact h1 | cases h
theorem tkS_nt {s : Str} (h : tkS s = .nt) : s = "not" := by
  rcases tkS_cases s with ⟨e, h1⟩ | ⟨e, h1⟩ | ⟨e, h1⟩ | ⟨e, h1⟩ | ⟨e, h1⟩ <;> rw [e] at h <;> first | exact h1 | cases h
theorem tkS_lp {s : Str} (h : tkS s = .lp) : s = "(" := by
  rcases tkS_cases s with ⟨e, h1⟩ | ⟨e, h1⟩ | ⟨e, h1⟩ | ⟨e, h1⟩ | ⟨e, h1⟩ <;> rw [e] at h <;> first | exact h1 | cases h
theorem tkS_rp {s : Str} (h : tkS s = .rp) : s = ")" := by
  rcases tkS_cases s with ⟨e, h1⟩ | ⟨e, h1⟩ | ⟨e, h1⟩ | ⟨e, h1⟩ | ⟨e, h1⟩ <;> rw [e] at h <;> first | exact h1 | cases h
theorem tkS_jt {s : Str} (h : tkS s = .jt) : s ≠ "x" ∧ s ≠ "not" ∧ s ≠ "(" ∧ s ≠ ")" := by
  rcases tkS_cases s with ⟨e, h1⟩ | ⟨e, h1⟩ | ⟨e, h1⟩ | ⟨e, h1⟩ | ⟨e, h1⟩ <;> rw [e] at h <;> first | exact h1 | cases h
theorem row_fin {ds : List D} (hr : ∀ d ∈ ds, rowSign d = true) {rs : List Str} (hs : ∀ d q, acc d q (rs.map tkS) = acc d q ((ds.map sg).map tkS)) (hm : ∀ s ∈ rs, s = "x" ∨ s ∈ ds.map sg) (hn : ∀ i, i < rs.length → NoRed rs i) : decide (rs = [("x" : Str)]) = acc 0 true (ds.map tk) := by
  have e : (ds.map sg).map tkS = ds.map tk := by
    rw [List.map_map]
    exact List.map_congr_left fun d hd => tk_sg (hr d hd)
  have nr : NR (rs.map tkS) := nr_rows (fun s _ => tkS_nt) (fun s _ => tkS_lp) (fun s _ => tkS_rp) (fun s hs ht => by
    obtain ⟨h1, h2, h3, h4⟩ := tkS_jt ht
    rcases hm s hs with h | h
    · exact absurd h h1
    · obtain ⟨d, hd, rfl⟩ := List.mem_map.mp h
      rcases sg_row (hr d hd) with ⟨h5, _⟩ | ⟨_, _, h5⟩
      · exact absurd h5 h1
      · rw [Bool.or_eq_true] at h5
        rcases h5 with h5 | h5
        · exact h5
        · simp only [List.any_cons, List.any_nil, Bool.or_false, Bool.or_eq_true, beq_iff_eq] at h5
          rcases h5 with h5 | h5 | h5
          · exact absurd h5.symm h2
          · exact absurd h5.symm h3
          · exact absurd h5.symm h4) (fun s _ => tkS_x) hn
  rw [← e, ← hs 0 true, nr_one nr]
  rw [decide_eq_decide]
  constructor
  · rintro rfl
    decide +kernel
  · intro h
    cases rs with
    | nil => cases h
    | cons s t =>
      simp only [List.map_cons, List.cons.injEq, List.map_eq_nil_iff] at h
      rw [tkS_x h.1, h.2]
section
variable {T : Nat → Option FD} {S : Store}
theorem lrow_eq (h : HLaw1 T) {k : Nat} {ds : List D} (hv : ∀ d ∈ ds, d.ok = true) (hr : ∀ d ∈ ds, rowSign d = true) (hl : ds.length ≤ 1000) : callN T (k + 2) 21 [.tup ds] S = .ok (.bl (acc 0 true (ds.map tk))) S := by
  refine EP_pure (EP_call h.h21 rfl rfl ?_)
  have hc : ∀ G : Env, 4 < G.length → compGo (.name 4) none (evE (callN T (k + 1)) (.ite (.isi (.var 4) .tuple) (.str "x") (.var 4))) ⟨ds, none⟩ G ds [] S = .ok (.lst ((ds.map sg).map .str)) S := fun G hG => by
    rw [List.map_map]
    refine compGo_map (fun d => .str (sg d)) (by show _ ≤ 16777216; omega) fun x hx => ⟨_, rfl, EP_pure ?_⟩
    rcases sg_row (hr x hx) with ⟨h1, h2⟩ | ⟨h1, h2, _⟩
    · simp [-Bool.exists_bool, setV, hG, isi_tup' (hv x hx), h1, h2]
    · simp [-Bool.exists_bool, setV, hG, isi_tup' (hv x hx), h2]
      exact h1
  have ho : (ds.map sg).all PyData.strOk = true := by
    rw [List.all_eq_true]
    intro s hs
    obtain ⟨d, hd, rfl⟩ := List.mem_map.mp hs
    exact sg_ok (hr d hd) (hv d hd)
  unfold f__law_is_row b__law_is_row
  refine SP_cons.mpr (SP_set.mpr ?_)
  simp [-Bool.exists_bool, -List.map_map, -SP_cons, wipeE, hc, setV]
  refine SP_cons.mpr (SP_set.mpr ?_)
  simp [-Bool.exists_bool, -List.map_map, -SP_cons, setV]
  refine SP_cons.mpr ?_
  refine SPX.mono (while_ok (k := k) (T := T) (rs := ds.map sg) (Bk := fun _ _ => False) (Rt := fun _ _ => False) h.h22 ho (by simpa using hl)) ?_ (fun _ _ z => False.elim z) (fun _ _ z => False.elim z)
  rintro G S' ⟨rfl, rs', a2, a3, rfl, o', hs, hm, hn⟩
  have he := eq_strs (S := S') o' (w := [("x" : Str)]) (by decide +kernel)
  simp only [List.map_cons, List.map_nil] at he
  simp [-Bool.exists_bool, he, lineN, row_fin hr hs hm hn]
end
end NW
end
section
/- What the law's recogniser of notices answers; _law_told. -/
namespace NW
open PySem
section
variable {T : Nat → Option FD} {S : Store}
theorem joints_eq (h22 : Is T 22 f__law_joints) {k : Nat} : callN T (k + 1) 22 [] S = .ok (.lst (JO.map .str)) S := by
  refine EP_pure (EP_call h22 rfl rfl ?_)
  simp [f__law_joints, b__law_joints, JO, lineN]
theorem mSign_str (x : Str) : mSign (.str x) = ((JO.any fun w => w == x) || ([("not" : Str), "(", ")"].any fun w => w == x)) := rfl
theorem mSign_not {v : D} (h : isStr v = false) : mSign v = mClause v := by cases v <;> first | rfl | cases h
theorem lnotice_turn (h : HLaw1 T) {k : Nat} {ds pre xs : List D} {x : D} {o : Option D} (hx : x.ok = true) (hf : x.fit lineN = true) (e : ds = pre ++ x :: xs) (hp : pre.all mSign = true) :
    SP (evSs (callN T (k + 3)) (.cons (.ife (.isi (.var 2) .str) (.cons (.ife (.cmp .NotIn (.var 2) (.bin .Add (.call 22 (.nil)) (.lst (.cons (.str "not") (.cons (.str "(") (.cons (.str ")") (.nil))))))) (.cons (.ret (.bl false)) (.nil)) (.nil)) (.nil)) (.cons (.ife (.not (.call 20 (.cons (.var 2) (.cons (.lst (.cons (.str "all") (.cons (.str "some") (.cons (.str "no") (.cons (.str "allnot") (.nil)))))) (.cons (.lst (.cons (.str "has") (.nil))) (.nil)))))) (.cons (.ret (.bl false)) (.nil)) (.cons (.set 1 (.bin .Add (.var 1) (.int 1))) (.nil))) (.nil))) (.nil))
      [some (.tup ds), some (.int ((pre.filter isTup).length : Nat)), some x] S)
    (fun G S' => S' = S ∧ G = [some (.tup ds), some (.int (((pre ++ [x]).filter isTup).length : Nat)), some x] ∧ (pre ++ [x]).all mSign = true) (fun d S' => S' = S ∧ d = .bl (mNotice (.tup ds))) (fun _ _ => False) := by
  have fls : mSign x = false → mNotice (.tup ds) = false := fun hs => by
    have : ds.all mSign = false := by rw [e, List.all_append, List.all_cons, hs]; simp
    simp only [mNotice, this]
    simp
  by_cases hs : isStr x = true
  · match x, hs with
    | .str s, _ =>
      have hi := nin_signL (S := S) (ws := JO ++ [("not" : Str), "(", ")"]) hx (by decide +kernel)
      rw [List.map_append] at hi
      simp only [List.map_cons, List.map_nil] at hi
      have e2 : isIn (JO ++ [("not" : Str), "(", ")"]) (.str s) = mSign (.str s) := by
        rw [mSign_str, ← List.any_append]; rfl
      rw [e2] at hi
      by_cases hm : mSign (.str s) = true
      · rw [hm] at hi
        simp [-Bool.exists_bool, -List.all_append, joints_eq h.h22, lineN, JO, isTup, hp, hm] at hi ⊢
        simp [hi, List.all_eq_true.mp hp]
        have hp' := List.all_eq_true.mp hp
        rintro x (h | rfl)
        · exact hp' x h
        · exact hm
      · have hm' := Bool.eq_false_iff.mpr hm
        rw [hm'] at hi
        simp [-Bool.exists_bool, joints_eq h.h22, lineN, JO, fls hm'] at hi ⊢
        simp [hi]
  · have hs' := Bool.eq_false_iff.mpr hs
    have ht := triple_eq (k := k + 1) (S := S) h (v := x) (ws := ["all", "some", "no", "allnot"]) (cs := ["has"]) hx (by decide +kernel) (by decide +kernel)
    rw [triple_same (by decide +kernel)] at ht
    simp only [List.map_cons, List.map_nil] at ht
    have e2 : (mPair ["all", "some", "no", "allnot"] x || mMany ["has"] x) = mSign x := by rw [mSign_not hs']; rfl
    rw [e2] at ht
    by_cases hm : mSign x = true
    · have htu := mClause_tup (by rw [← mSign_not hs']; exact hm)
      rw [hm] at ht
      simp [-Bool.exists_bool, isi_str' hx, hs', ht, lineN, setV, htu, hp, hm]
    · have hm' := Bool.eq_false_iff.mpr hm
      rw [hm'] at ht
      simp [-Bool.exists_bool, isi_str' hx, hs', ht, lineN, setV, fls hm']
theorem lnotice_eq (h : HLaw1 T) {k : Nat} {v : D} (hv : v.ok = true) (hf : v.fit lineN = true) : callN T (k + 4) 23 [v] S = .ok (.bl (mNotice v)) S := by
  refine EP_pure (EP_call h.h23 rfl rfl ?_)
  cases v with
  | tup ds =>
    obtain ⟨hl, hfi⟩ := fit_tup hf
    have hoks := ok_tups hv
    by_cases h1 : 1 ≤ ds.length
    · by_cases h2 : ds.length ≤ 16
      · have h1' : (1 : Int) ≤ (ds.length : Int) := by omega
        have h2' : (ds.length : Int) ≤ 16 := by omega
        unfold f__law_is_notice b__law_is_notice
        refine SP_cons.mpr ?_
        simp [-Bool.exists_bool, -SP_cons, h1', h2']
        refine SP_cons.mpr (SP_set.mpr ?_)
        simp [-Bool.exists_bool, -SP_cons, setV]
        refine SP_cons.mpr (SP_for.mpr ?_)
        simp [-Bool.exists_bool, -SP_cons]
        refine SP_forGo (fun xs G S' => S' = S ∧ ∃ (pre : List D) (o : Option D), ds = pre ++ xs ∧ pre.all mSign = true ∧ G = [some (.tup ds), some (.int ((pre.filter isTup).length : Nat)), o]) (fun _ _ _ _ => rfl) ?_ ?_ _ _ _ ⟨rfl, [], none, rfl, rfl, rfl⟩
        · rintro G S' ⟨rfl, pre, o, e, hp, rfl⟩
          rw [List.append_nil] at e
          subst e
          have hr := lrow_eq (k := k + 1) (S := S') h hoks (fun d hd => mSign_row (List.all_eq_true.mp hp d hd)) (by omega)
          by_cases h4 : (ds.filter isTup).length ≤ 4
          · have h4' : ((ds.filter isTup).length : Int) ≤ 4 := by omega
            simp [-Bool.exists_bool, h4', hr, mNotice, h1, h2, h4]
            exact fun _ z hz => List.all_eq_true.mp hp z hz
          · have h4' : ¬ ((ds.filter isTup).length : Int) ≤ 4 := by omega
            simp [-Bool.exists_bool, h4', mNotice, h4]
        · rintro x xs G S' ⟨rfl, pre, o, e, hp, rfl⟩
          have hx : x ∈ ds := by rw [e]; simp
          refine ⟨_, rfl, ?_⟩
          refine SP.mono (lnotice_turn (k := k) (o := o) h (hoks x hx) (hfi x hx) e hp) ?_ (fun d S' => ?_) (fun _ _ z => False.elim z)
          · rintro G S2 ⟨rfl, rfl, hp'⟩
            exact ⟨rfl, pre ++ [x], some x, by rw [e]; simp, hp', rfl⟩
          · rintro ⟨rfl, rfl⟩
            exact ⟨rfl, rfl⟩
      · have h1' : (1 : Int) ≤ (ds.length : Int) := by omega
        have h2' : ¬ (ds.length : Int) ≤ 16 := by omega
        simp [-Bool.exists_bool, f__law_is_notice, b__law_is_notice, h1', h2', mNotice, h2]
    · have h1' : ¬ (1 : Int) ≤ (ds.length : Int) := by omega
      simp [-Bool.exists_bool, f__law_is_notice, b__law_is_notice, h1', mNotice, h1]
  | int i => simp [-Bool.exists_bool, f__law_is_notice, b__law_is_notice, mNotice]
  | bl b => simp [-Bool.exists_bool, f__law_is_notice, b__law_is_notice, mNotice]
  | non => simp [-Bool.exists_bool, f__law_is_notice, b__law_is_notice, mNotice]
  | str x => simp [-Bool.exists_bool, f__law_is_notice, b__law_is_notice, mNotice]
  | lst x => simp [-Bool.exists_bool, f__law_is_notice, b__law_is_notice, mNotice]
  | loc _ => simp only [D.ok] at hv; cases hv
  | fn _ => simp only [D.ok] at hv; cases hv
  | scr _ => simp only [D.ok] at hv; cases hv
theorem ne_bls {a b c : Bool} : cmpOp .NotEq S (.tup [.bl a, .bl b, .bl c]) (.tup [.bl a, .bl b, .bl c]) = some false := by
  cases a <;> cases b <;> cases c <;> rfl
theorem told_eq (h : HLaw1 T) (hn : HNot T) (h27 : Is T 27 f__law_told) {k : Nat} {v : D} (hv : v.ok = true) (hf : v.fit lineN = true) : callN T (k + 37) 27 [v] S = .ok (.bl true) S := by
  refine EP_pure (EP_call h27 rfl rfl ?_)
  have e1 := lnotice_eq (k := k + 32) (S := S) h hv hf
  have e2 := lhouse_eq (k := k + 34) (S := S) h hv hf
  have e3 := lform_eq (S := S) h 10 (k + 23) v hv hf
  simp only [Int.cast_ofNat_Int] at e3
  have e4 := notice_eq (k := k) (S := S) hn hv hf
  have e5 := house_eq (k := k + 34) (S := S) hn.toHVal hv hf
  have e6 := formula_eq (k := k + 21) (S := S) hn hv hf
  unfold f__law_told b__law_told
  refine SP_cons.mpr (SP_set.mpr ?_)
  simp [-Bool.exists_bool, -SP_cons, e1, e2, e3, lineN, setV]
  refine SP_cons.mpr (SP_for.mpr ?_)
  have hr : rngD 0 2 = [.int 0, .int 1] := rfl
  have hro : rngOk 0 2 = true := by decide +kernel
  simp [-Bool.exists_bool, -SP_cons, hro, hr]
  have hc : ∀ G : Env, 4 < G.length → compGo (.name 4) (some (evE (callN T (k + 36)) (.not (.isi (.var 4) .bool)))) (evE (callN T (k + 36)) (.var 4)) ⟨[.bl (mNotice v), .bl (mHouse v), .bl (mForm 10 v)], none⟩ G [.bl (mNotice v), .bl (mHouse v), .bl (mForm 10 v)] [] S = .ok (.lst []) S := fun G hG => by
    have := compGo_pure (tg := .name 4) (c := some (evE (callN T (k + 36)) (.not (.isi (.var 4) .bool)))) (elt := evE (callN T (k + 36)) (.var 4)) (src := ⟨[.bl (mNotice v), .bl (mHouse v), .bl (mForm 10 v)], none⟩) (G := G) (S := S) (fun _ => false) id rfl [.bl (mNotice v), .bl (mHouse v), .bl (mForm 10 v)] [] (by show 3 ≤ 16777216; omega) fun x hx =>
      ⟨_, rfl, EP_pure (by
        simp only [List.mem_cons, List.not_mem_nil, or_false] at hx
        rcases hx with rfl | rfl | rfl <;> simp [-Bool.exists_bool, setV, hG]), fun z => nomatch z⟩
    rw [this]
    simp
  have hne : cmpOp .NotEq S (.lst []) (.lst []) = some false := rfl
  refine SP_forGo (fun _ G S' => S' = S ∧ ∃ a b, G = [some v, some (.tup [.bl (mNotice v), .bl (mHouse v), .bl (mForm 10 v)]), a, b, none]) (fun _ _ _ _ => rfl) ?_ ?_ _ _ _ ⟨rfl, none, none, rfl⟩
  · rintro G S' ⟨rfl, a, b, rfl⟩
    simp
  · rintro x xs G S' ⟨rfl, a, b, rfl⟩
    refine ⟨_, rfl, ?_⟩
    simp [-Bool.exists_bool, setV, e4, e5, e6, lineN, ne_bls, wipeE, hc, hne]
end
end NW
end
section
/- Marks, clauses, formulas, signs, rows that a law draws: as data of Lean. -/
namespace NW
open PySem
inductive Mk where
  | a | b | both
  deriving DecidableEq
inductive Fw where
  | all | some | no
  deriving DecidableEq
inductive Bw where
  | and | or | iff | other
  deriving DecidableEq
inductive Jt where
  | and | or | unless | onlyif
  deriving DecidableEq
/-- n stands for the number n + 1; s: the marks are turned -/
inductive Cl where
  | pr (w : Fw) (s : Bool) | alln (s : Bool) | has (n : Fin 3) (m : Mk)
  deriving DecidableEq
/-- j: just -/
inductive Fm where
  | pr (w : Fw) (s : Bool) | num (j : Bool) (n : Fin 3) (m : Mk) | not (f : Fm) | bin (w : Bw) (f g : Fm)
  deriving DecidableEq
inductive Sg where
  | cl (c : Cl) | jt (j : Jt) | nt | lp | rp
  deriving DecidableEq
def Mk.s : Mk → Str
  | .a => "a" | .b => "b" | .both => "both"
def Fw.s : Fw → Str
  | .all => "all" | .some => "some" | .no => "no"
def Bw.s : Bw → Str
  | .and => "and" | .or => "or" | .iff => "if" | .other => "other"
def Jt.s : Jt → Str
  | .and => "and" | .or => "or" | .unless => "unless" | .onlyif => "onlyif"
def mk1 (s : Bool) : Str := if s then "b" else "a"
def mk2 (s : Bool) : Str := if s then "a" else "b"
def jw (j : Bool) : Str := if j then "just" else "least"
def n3 (n : Fin 3) : Int := (n.val : Int) + 1
def Cl.d : Cl → D
  | .pr w s => .tup [.str w.s, .str (mk1 s), .str (mk2 s)]
  | .alln s => .tup [.str "allnot", .str (mk1 s), .str (mk2 s)]
  | .has n m => .tup [.str "has", .int (n3 n), .str m.s]
def Fm.d : Fm → D
  | .pr w s => .tup [.str w.s, .str (mk1 s), .str (mk2 s)]
  | .num j n m => .tup [.str (jw j), .int (n3 n), .str m.s]
  | .not f => .tup [.str "not", f.d]
  | .bin w f g => .tup [.str w.s, f.d, g.d]
def Sg.d : Sg → D
  | .cl c => c.d
  | .jt j => .str j.s
  | .nt => .str "not"
  | .lp => .str "("
  | .rp => .str ")"
def Fm.dep : Fm → Nat
  | .pr _ _ => 1
  | .num _ _ _ => 1
  | .not f => f.dep + 1
  | .bin _ f g => max f.dep g.dep + 1
/-- a part that a law draws: a clause, or two of them in brackets; n: with not ahead -/
inductive Pt where
  | one (n : Bool) (c : Cl) | grp (n : Bool) (n1 : Bool) (c1 : Cl) (j : Jt) (n2 : Bool) (c2 : Cl)
  deriving DecidableEq
def ones (n : Bool) (c : Cl) : List Sg := if n then [.nt, .cl c] else [.cl c]
def Pt.row : Pt → List Sg
  | .one n c => ones n c
  | .grp n n1 c1 j n2 c2 => (if n then [.nt] else []) ++ ([.lp] ++ ones n1 c1 ++ [.jt j] ++ ones n2 c2 ++ [.rp])
def Pt.cls : Pt → Nat
  | .one _ _ => 1
  | .grp _ _ _ _ _ _ => 2
def Pt.grs : Pt → Nat
  | .one _ _ => 0
  | .grp _ _ _ _ _ _ => 1
/-- a drawn notice -/
structure Nt where
  hd : Pt
  tl : List (Jt × Pt)
def Nt.row (n : Nt) : List Sg := n.hd.row ++ n.tl.flatMap fun p => .jt p.1 :: p.2.row
def Nt.cls (n : Nt) : Nat := n.hd.cls + (n.tl.map fun p => p.2.cls).sum
def Nt.grs (n : Nt) : Nat := n.hd.grs + (n.tl.map fun p => p.2.grs).sum
def Nt.d (n : Nt) : D := .tup (n.row.map Sg.d)
end NW
end
section
/- The draws. -/
namespace NW
open PySem
/-! ### the source -/
def Sr (p : Nat) (S : Store) : Prop := ∃ a b : Int, S[p]? = some (.lst [.int a, .int b]) ∧ 0 ≤ a ∧ 0 ≤ b ∧ b < 2147483237
structure Up (p : Nat) (S S' : Store) : Prop where
  len : S.length ≤ S'.length
  old : ∀ q, q < S.length → q ≠ p → S'[q]? = S[q]?
  sr : Sr p S'
theorem Sr.lt {p : Nat} {S : Store} (h : Sr p S) : p < S.length := by
  obtain ⟨_, _, h, _⟩ := h
  exact (List.getElem?_eq_some_iff.mp h).1
theorem Up.trans {p : Nat} {S S' S'' : Store} (a : Up p S S') (b : Up p S' S'') : Up p S S'' := ⟨Nat.le_trans a.len b.len, fun q h n => (b.old q (Nat.lt_of_lt_of_le h a.len) n).trans (a.old q h n), b.sr⟩
theorem Up.refl {p : Nat} {S : Store} (h : Sr p S) : Up p S S := ⟨Nat.le_refl _, fun _ _ _ => rfl, h⟩
theorem Up.set {p : Nat} {S : Store} {a b : Int} (h : p < S.length) (ha : 0 ≤ a) (hb : 0 ≤ b) (hb2 : b < 2147483237) : Up p S (S.set p (.lst [.int a, .int b])) :=
  ⟨by simp, fun q _ n => List.getElem?_set_ne (Ne.symm n), a, b, by simp [h], ha, hb, hb2⟩
theorem Up.push {p : Nat} {S : Store} {o : Ob} (h : Sr p S) : Up p S (S ++ [o]) := by
  have hl := h.lt
  refine ⟨by simp, fun q hq _ => List.getElem?_append_left hq, ?_⟩
  obtain ⟨a, b, h, r⟩ := h
  exact ⟨a, b, by rw [List.getElem?_append_left hl]; exact h, r⟩
structure HSrc (T : Nat → Option FD) : Prop where
  h13 : Is T 13 f__law_source
  h14 : Is T 14 f__law_draw
  h15 : Is T 15 f__law_choice
theorem draw_ok {T : Nat → Option FD} (h : HSrc T) {k p : Nat} {m : Int} {S : Store} (hs : Sr p S) (hm : 0 < m) (hm2 : m < 1073741824) :
    EP (callN T (k + 1) 14 [.loc p, .int m] S) (fun d S' => (∃ r, d = .int r ∧ 0 ≤ r ∧ r < m) ∧ Up p S S') := by
  have hl := hs.lt
  obtain ⟨a, b, hp, ha, hb, hb2⟩ := hs
  refine EP_call h.h14 rfl rfl ?_
  by_cases h0 : 0 < a
  · simp [f__law_draw, b__law_draw, idx_loc hp, h0, hm, divOk_s hm hm2, setV, setItemD, hp, ixAt, and_assoc]
    refine ⟨Int.emod_nonneg _ (by omega), Int.emod_lt_of_pos _ hm, ?_⟩
    exact Up.set hl (Int.ediv_nonneg ha (by omega)) hb hb2
  · have hq : (S.set p (Ob.lst [D.int a, D.int ((b * 48271 + 83) % 2147483237)]))[p]? = some (.lst [D.int a, D.int ((b * 48271 + 83) % 2147483237)]) := by
      have hl' : p < List.length S := hl
      simp [hl']
    have hmu : mulOk b 48271 = true := mulOk_r (by omega) (by omega)
    have hb' : 0 ≤ (b * 48271 + 83) % 2147483237 ∧ (b * 48271 + 83) % 2147483237 < 2147483237 := ⟨Int.emod_nonneg _ (by omega), Int.emod_lt_of_pos _ (by omega)⟩
    have hmu2 : ∀ z, mulOk ((b * 48271 + 83) % 2147483237) z = true := fun z => mulOk_l (by omega) (by omega)
    have hd : divOk 41 = true := by decide
    have hd2 : divOk 32 = true := by decide
    simp [f__law_draw, b__law_draw, idx_loc hp, h0, hm, setV, setItemD, hp, ixAt, and_assoc, hmu, idx_loc hq, hmu2, hd, hd2]
    exact ⟨Int.emod_nonneg _ (by omega), Int.emod_lt_of_pos _ hm, Up.set hl ha hb'.1 hb'.2⟩
theorem choice_ok {T : Nat → Option FD} (h : HSrc T) {k p : Nat} {ds : List D} {S : Store} (hs : Sr p S) (hm : ds ≠ []) (hm2 : ds.length < 1073741824) :
    EP (callN T (k + 2) 15 [.loc p, .lst ds] S) (fun d S' => d ∈ ds ∧ Up p S S') := by
  refine EP_call h.h15 rfl rfl ?_
  have h1 : 0 < ds.length := List.length_pos_iff.mpr hm
  simp [f__law_choice, b__law_choice]
  refine (draw_ok h (k := k) hs (m := ds.length) (by omega) (by omega)).mono fun d S' ⟨⟨r, hr, h2, h3⟩, u⟩ => ?_
  subst hr
  obtain ⟨n, rfl⟩ := Int.eq_ofNat_of_zero_le h2
  have hn : n < ds.length := by omega
  simp [atD_nat hn, u]
theorem source_ok {T : Nat → Option FD} (h : HSrc T) {k : Nat} {ns : List Int} {i : Nat} {S : Store} (hi : i < 1000) : EP (callN T (k + 1) 13 [.scr ns, .int i] S) (fun d S' => d = .loc S.length ∧ S'.length = S.length + 1 ∧ (∀ q, q < S.length → S'[q]? = S[q]?) ∧ Sr S.length S') := by
  refine EP_call h.h13 rfl rfl ?_
  have e1 : ∀ z, mulOk z 16807 = true := fun z => mulOk_r (by omega) (by omega)
  have e2 : ∀ z, mulOk 10009 z = true := fun z => mulOk_l (by omega) (by omega)
  have e3 : ∀ z, mulOk 101 z = true := fun z => mulOk_l (by omega) (by omega)
  have e4 : powOk 10 17 = true := by decide
  have fin : ∀ c : Int, 0 ≤ c → SP (evSs (callN T k) (.cons (.ret (.nlst (.cons (.ite (.cmp .Gt (.var 2) (.bin .Pow (.int 10) (.int 17))) (.var 2) (.int 0)) (.cons (.bin .Mod (.cb .int (.cons (.bin .Add (.bin .Add (.bin .Mult (.var 2) (.int 16807)) (.bin .Mult (.int 10009) (.var 1))) (.int 71)) (.nil))) (.int 2147483237)) (.nil))))) (.nil)) [some (.scr ns), some (.int i), some (.int c)] S)
      (fun _ S1 => (fun d S' => d = D.loc S.length ∧ S'.length = S.length + 1 ∧ (∀ q, q < S.length → S'[q]? = S[q]?) ∧ Sr S.length S') .non S1)
      (fun d S' => d = D.loc S.length ∧ S'.length = S.length + 1 ∧ (∀ q, q < S.length → S'[q]? = S[q]?) ∧ Sr S.length S') (fun _ _ => False) := fun c hc => by
    have hb : 0 ≤ (c * 16807 + 10009 * (i : Int) + 71) % 2147483237 ∧ (c * 16807 + 10009 * (i : Int) + 71) % 2147483237 < 2147483237 := ⟨Int.emod_nonneg _ (by omega), Int.emod_lt_of_pos _ (by omega)⟩
    by_cases hg : (100000000000000000 : Int) < c
    · simp [-Bool.exists_bool, e1, e2, e4, and_assoc, hg, lineN]
      refine ⟨fun q hq => List.getElem?_append_left hq, _, _, by simp, hc, hb.1, hb.2⟩
    · simp [-Bool.exists_bool, e1, e2, e4, and_assoc, hg, lineN]
      refine ⟨fun q hq => List.getElem?_append_left hq, _, _, by simp; rfl, by omega, hb.1, hb.2⟩
  by_cases hk : i < ns.length
  · have hk' : (i : Int) < (ns.length : Int) := by omega
    have ha : idxOp S (.scr ns) (.int i) = some (.int ns[i]) := by
      show (some (ns.map D.int)).bind (fun ds => atD ds (i : Int)) = _
      rw [Option.bind_some, atD_nat (by simpa using hk)]
      simp
    have := fin (if ns[i] < 0 then -ns[i] else ns[i]) (by split <;> omega)
    simp only [f__law_source, b__law_source, SP_cons (s := .set _ _)]
    simp [-Bool.exists_bool, hk', ha, setV, and_assoc]
    simpa [-Bool.exists_bool, and_assoc] using this
  · have hk' : ¬ (i : Int) < (ns.length : Int) := by omega
    have := fin (101 * i + 47) (by omega)
    simp only [f__law_source, b__law_source, SP_cons (s := .set _ _)]
    simp [-Bool.exists_bool, hk', e3, and_assoc, setV]
    simpa [-Bool.exists_bool, and_assoc] using this
theorem draw_B {T : Nat → Option FD} (h : HSrc T) {k p : Nat} {m : Int} {S : Store} (hk : 1 ≤ k) (hs : Sr p S) (hm : 0 < m) (hm2 : m < 1073741824) :
    EP (callN T k 14 [.loc p, .int m] S) (fun d S' => (∃ r, d = .int r ∧ 0 ≤ r ∧ r < m) ∧ Up p S S') := by
  obtain ⟨j, rfl⟩ : ∃ j, k = j + 1 := ⟨k - 1, by omega⟩
  exact draw_ok h hs hm hm2
theorem choice_B {T : Nat → Option FD} (h : HSrc T) {k p : Nat} {ds : List D} {S : Store} (hk : 2 ≤ k) (hs : Sr p S) (hm : ds ≠ []) (hm2 : ds.length < 1073741824) :
    EP (callN T k 15 [.loc p, .lst ds] S) (fun d S' => d ∈ ds ∧ Up p S S') := by
  obtain ⟨j, rfl⟩ : ∃ j, k = j + 2 := ⟨k - 2, by omega⟩
  exact choice_ok h hs hm hm2
end NW
end
section
/- What a law draws: clauses, formulas. -/
namespace NW
open PySem
structure HGen (T : Nat → Option FD) : Prop extends HSrc T where
  h17 : Is T 17 f__law_clause
  h18 : Is T 18 f__law_notice
theorem pair_of {d : D} (h : d ∈ [D.tup [.str "a", .str "b"], .tup [.str "b", .str "a"]]) : ∃ s, d = .tup [.str (mk1 s), .str (mk2 s)] := by
  simp only [List.mem_cons, List.not_mem_nil, or_false] at h
  rcases h with rfl | rfl
  · exact ⟨false, rfl⟩
  · exact ⟨true, rfl⟩
theorem mark_of {d : D} (h : d ∈ [D.str "a", .str "b", .str "both"]) : ∃ m : Mk, d = .str m.s := by
  simp only [List.mem_cons, List.not_mem_nil, or_false] at h
  rcases h with rfl | rfl | rfl
  · exact ⟨.a, rfl⟩
  · exact ⟨.b, rfl⟩
  · exact ⟨.both, rfl⟩
theorem n3_of {r : Int} (h1 : 0 ≤ r) (h2 : r < 3) : ∃ n : Fin 3, 1 + r = n3 n := ⟨⟨r.toNat, by omega⟩, by show 1 + r = ((r.toNat : Nat) : Int) + 1; omega⟩
section
variable {T : Nat → Option FD} {S : Store} {p : Nat}
theorem clause_ok (h : HGen T) {k : Nat} (hk : 3 ≤ k) (hs : Sr p S) : EP (callN T k 17 [.loc p] S) (fun d S' => (∃ c : Cl, d = c.d) ∧ Up p S S') := by
  refine EP_callB h.h17 (by omega) rfl rfl ?_
  unfold f__law_clause b__law_clause
  refine SP_cons.mpr (SP_set.mpr ?_)
  simp [-SP_cons, lineN]
  refine (choice_B h.toHSrc (by omega) hs (by simp) (by decide)).mono fun d S1 ⟨hd, u1⟩ => ?_
  obtain ⟨s, rfl⟩ := pair_of hd
  simp [-SP_cons, setV]
  refine SP_cons.mpr (SP_ife.mpr ?_)
  simp [-Bool.exists_bool, -SP_cons]
  refine (draw_B h.toHSrc (by omega) u1.sr (m := 5) (by decide) (by decide)).mono fun d S2 ⟨⟨r, hr, h1, h2⟩, u2⟩ => ?_
  subst hr
  by_cases hlt : r < 2
  · simp [-Bool.exists_bool, lineN, hlt]
    refine (draw_B h.toHSrc (by omega) u2.sr (m := 3) (by decide) (by decide)).mono fun d S3 ⟨⟨r3, hr3, h3, h4⟩, u3⟩ => ?_
    subst hr3
    simp
    refine (choice_B h.toHSrc (by omega) u3.sr (by simp) (by decide)).mono fun d S4 ⟨hd, u4⟩ => ?_
    obtain ⟨m, rfl⟩ := mark_of hd
    obtain ⟨n, hn⟩ := n3_of h3 h4
    exact ⟨⟨.has n m, by rw [hn]; rfl⟩, ((u1.trans u2).trans u3).trans u4⟩
  · simp [-Bool.exists_bool, lineN, hlt]
    refine (choice_B h.toHSrc (by omega) u2.sr (by simp) (by decide)).mono fun d S3 ⟨hd, u3⟩ => ?_
    refine ⟨?_, (u1.trans u2).trans u3⟩
    simp only [List.mem_cons, List.not_mem_nil, or_false] at hd
    rcases hd with rfl | rfl | rfl | rfl
    · exact ⟨.pr .all s, rfl⟩
    · exact ⟨.pr .some s, rfl⟩
    · exact ⟨.pr .no s, rfl⟩
    · exact ⟨.alln s, rfl⟩
theorem formula_ok (h : HSrc T) (h19 : Is T 19 f__law_formula) : ∀ (n k : Nat) (S : Store), n + 2 ≤ k → Sr p S → 1 ≤ n → EP (callN T k 19 [.loc p, .int (n : Nat)] S) (fun d S' => (∃ f : Fm, d = f.d ∧ f.dep ≤ n) ∧ Up p S S') := by
  intro n
  induction n with
  | zero => intro k S hs h1; omega
  | succ n ih =>
    intro k S hk hs h1
    refine EP_callB h19 (by omega) rfl rfl ?_
    unfold f__law_formula b__law_formula
    refine SP_cons.mpr (SP_set.mpr ?_)
    simp [-SP_cons]
    refine (draw_B h (by omega) hs (m := 7) (by decide) (by decide)).mono fun d S1 ⟨⟨r, hr, h2, h3⟩, u1⟩ => ?_
    subst hr
    simp [-SP_cons, setV]
    refine SP_cons.mpr (SP_ife.mpr ?_)
    have hsub : ((n : Int) + 1 - 1) = ((n : Nat) : Int) := by omega
    -- the leaf
    have leaf : ∀ {N Bk : Env → Store → Prop} {W : Xc → Env → Store → Prop}, SPX (evSs (callN T (k - 1)) (.cons (.ife (.cmp .Eq (.bin .Mod (.var 2) (.int 2)) (.int 0)) (.cons (.set 3 (.call 15 (.cons (.var 0) (.cons (.lst (.cons (.str "least") (.cons (.str "just") (.nil)))) (.nil))))) (.cons (.ret (.tup (.cons (.var 3) (.cons (.bin .Add (.int 1) (.call 14 (.cons (.var 0) (.cons (.int 3) (.nil))))) (.cons (.call 15 (.cons (.var 0) (.cons (.lst (.cons (.str "a") (.cons (.str "b") (.cons (.str "both") (.nil))))) (.nil)))) (.nil)))))) (.nil))) (.nil)) (.cons (.ret (.bin .Add (.tup (.cons (.call 15 (.cons (.var 0) (.cons (.lst (.cons (.str "all") (.cons (.str "some") (.cons (.str "no") (.nil))))) (.nil)))) (.nil))) (.call 15 (.cons (.var 0) (.cons (.lst (.cons (.tup (.cons (.str "a") (.cons (.str "b") (.nil)))) (.cons (.tup (.cons (.str "b") (.cons (.str "a") (.nil)))) (.nil)))) (.nil)))))) (.nil)))
        [some (.loc p), some (.int ((n : Int) + 1)), some (.int r), none, none] S1) N (fun d S' => (∃ f : Fm, d = f.d ∧ f.dep ≤ n + 1) ∧ Up p S S') Bk W := fun {N Bk W} => by
      refine SP_cons.mpr (SP_ife.mpr ?_)
      by_cases hm : r % 2 = 0
      · simp [-Bool.exists_bool, -SP_cons, hm]
        refine SP_cons.mpr (SP_set.mpr ?_)
        simp [-SP_cons, lineN]
        refine EP.to (choice_B h (by omega) u1.sr (by simp) (by decide)) fun d S2 ⟨hd, u2⟩ => ?_
        obtain ⟨j, rfl⟩ : ∃ j, d = .str (jw j) := by
          simp only [List.mem_cons, List.not_mem_nil, or_false] at hd
          rcases hd with rfl | rfl
          · exact ⟨false, rfl⟩
          · exact ⟨true, rfl⟩
        simp [setV, lineN]
        refine EP.to (draw_B h (by omega) u2.sr (m := 3) (by decide) (by decide)) fun d S3 ⟨⟨r3, hr3, h5, h6⟩, u3⟩ => ?_
        subst hr3
        simp
        refine EP.to (choice_B h (by omega) u3.sr (by simp) (by decide)) fun d S4 ⟨hd, u4⟩ => ?_
        obtain ⟨m, rfl⟩ := mark_of hd
        obtain ⟨n', hn⟩ := n3_of h5 h6
        exact ⟨⟨.num j n' m, by rw [hn]; rfl, by simp [Fm.dep]⟩, ((u1.trans u2).trans u3).trans u4⟩
      · have hm1 : r % 2 = 1 := by omega
        simp [-Bool.exists_bool, -SP_cons, hm1]
        refine SP_cons.mpr (SP_ret'.mpr ?_)
        simp [lineN]
        refine EP.to (choice_B h (by omega) u1.sr (by simp) (by decide)) fun d S2 ⟨hd, u2⟩ => ?_
        obtain ⟨w, rfl⟩ : ∃ w : Fw, d = .str w.s := by
          simp only [List.mem_cons, List.not_mem_nil, or_false] at hd
          rcases hd with rfl | rfl | rfl
          · exact ⟨.all, rfl⟩
          · exact ⟨.some, rfl⟩
          · exact ⟨.no, rfl⟩
        refine EP.to (choice_B h (by omega) u2.sr (by simp) (by decide)) fun d S3 ⟨hd, u3⟩ => ?_
        obtain ⟨s, rfl⟩ := pair_of hd
        simp [lineN]
        exact ⟨⟨.pr w s, rfl, by simp [Fm.dep]⟩, (u1.trans u2).trans u3⟩
    by_cases hn : 1 ≤ n
    · by_cases h4 : 2 < r
      · have hn' : (1 : Int) < (n : Int) + 1 := by omega
        simp [-Bool.exists_bool, -SP_cons, hn', h4]
        refine SP_cons.mpr (SP_ife.mpr ?_)
        by_cases h5 : r = 3
        · subst h5
          simp [-Bool.exists_bool, -SP_cons]
          refine SP_cons.mpr (SP_ret'.mpr ?_)
          simp [hsub]
          refine EP.to (ih (k - 1) S1 (by omega) u1.sr hn) fun d S2 ⟨⟨f, e, hf⟩, u2⟩ => ?_
          subst e
          exact ⟨by decide, ⟨.not f, rfl, by simp [Fm.dep]; omega⟩, u1.trans u2⟩
        · have h5' : (r == 3) = false := beq_false_of_ne h5
          simp [-Bool.exists_bool, -SP_cons, h5']
          refine SP_cons.mpr (SP_set.mpr ?_)
          simp [-SP_cons, lineN]
          refine EP.to (choice_B h (by omega) u1.sr (by simp) (by decide)) fun d S2 ⟨hd, u2⟩ => ?_
          obtain ⟨w, rfl⟩ : ∃ w : Bw, d = .str w.s := by
            simp only [List.mem_cons, List.not_mem_nil, or_false] at hd
            rcases hd with rfl | rfl | rfl | rfl
            · exact ⟨.and, rfl⟩
            · exact ⟨.or, rfl⟩
            · exact ⟨.iff, rfl⟩
            · exact ⟨.other, rfl⟩
          simp [-SP_cons, setV]
          refine SP_cons.mpr (SP_set.mpr ?_)
          simp [-SP_cons, hsub]
          refine EP.to (ih (k - 1) S2 (by omega) u2.sr hn) fun d S3 ⟨⟨f, e, hf⟩, u3⟩ => ?_
          subst e
          simp [-SP_cons, setV]
          refine SP_cons.mpr (SP_ret'.mpr ?_)
          simp [hsub]
          refine EP.to (ih (k - 1) S3 (by omega) u3.sr hn) fun d S4 ⟨⟨g, e, hg⟩, u4⟩ => ?_
          subst e
          exact ⟨by decide, ⟨.bin w f g, rfl, by simp [Fm.dep]; omega⟩, ((u1.trans u2).trans u3).trans u4⟩
      · have hn' : (1 : Int) < (n : Int) + 1 := by omega
        simp [-Bool.exists_bool, -SP_cons, hn', h4]
        exact leaf
    · have hn' : ¬ (1 : Int) < (n : Int) + 1 := by omega
      simp [-Bool.exists_bool, -SP_cons, hn']
      exact leaf
end
end NW
end
section
/- What a law draws: notices. -/
namespace NW
open PySem
/-- v is a list of these, by value or by its place -/
def Hl (S : Store) (v : D) (ds : List D) : Prop := v = .lst ds ∨ ∃ q, v = .loc q ∧ S[q]? = some (.lst ds)
section
variable {S : Store} {v : D} {ds : List D}
theorem Hl.list (h : Hl S v ds) : listOf S v = some ds := by
  rcases h with rfl | ⟨q, rfl, h⟩
  · rfl
  · exact list_loc h
theorem Hl.len (h : Hl S v ds) : callB .len S [v] = some (.int ds.length) := by
  rcases h with rfl | ⟨q, rfl, h⟩
  · rfl
  · exact len_loc h
theorem Hl.idx (h : Hl S v ds) {i : Int} : idxOp S v (.int i) = atD ds i := by
  rcases h with rfl | ⟨q, rfl, h⟩
  · rfl
  · exact idx_loc h
theorem Hl.sl (h : Hl S v ds) {l u : Option Int} : slOp S v l u = some (.lst (cutD ds l u)) := by
  rcases h with rfl | ⟨q, rfl, h⟩
  · rfl
  · show (listOf S (.loc q)).map _ = _
    rw [list_loc h]; rfl
theorem Hl.up {S' : Store} {p : Nat} (h : Hl S v ds) (u : Up p S S') (hp : ∀ q, v = .loc q → q ≠ p) : Hl S' v ds := by
  rcases h with h | ⟨q, e, h⟩
  · exact .inl h
  · exact .inr ⟨q, e, by rw [u.old q (List.getElem?_eq_some_iff.mp h).1 (hp q e)]; exact h⟩
end
theorem Up.put {p q : Nat} {S0 S : Store} {o : Ob} (u : Up p S0 S) (h1 : S0.length ≤ q) (h2 : q ≠ p) : Up p S0 (S.set q o) := by
  refine ⟨by simpa using u.len, fun r hr hn => ?_, ?_⟩
  · rw [List.getElem?_set_ne (by omega)]
    exact u.old r hr hn
  · obtain ⟨a, b, h, r⟩ := u.sr
    exact ⟨a, b, by rw [List.getElem?_set_ne h2]; exact h, r⟩
def Pt.d (P : Pt) : D := .tup (P.row.map Sg.d)
theorem ones_len (n : Bool) (c : Cl) : (ones n c).length ≤ 2 := by cases n <;> simp [ones]
theorem Pt.len (P : Pt) : P.row.length ≤ 8 := by
  cases P with
  | one n c => have := ones_len n c; simp only [Pt.row]; omega
  | grp n n1 c1 j n2 c2 =>
    have h1 := ones_len n1 c1
    have h2 := ones_len n2 c2
    have h3 : (if n then [Sg.nt] else []).length ≤ 1 := by cases n <;> simp
    simp only [Pt.row, List.length_append, List.length_cons, List.length_nil]
    omega
def clsL (ps : List Pt) : Nat := (ps.map Pt.cls).sum
def grsL (ps : List Pt) : Nat := (ps.map Pt.grs).sum
def isOne (P : Pt) : Prop := ∃ n c, P = .one n c
theorem ones_cls {ps : List Pt} (h : ∀ P ∈ ps, isOne P) : clsL ps = ps.length ∧ grsL ps = 0 := by
  induction ps with
  | nil => exact ⟨rfl, rfl⟩
  | cons P ps ih =>
    obtain ⟨n, c, rfl⟩ := h P (by simp)
    obtain ⟨h1, h2⟩ := ih fun Q hQ => h Q (by simp [hQ])
    refine ⟨?_, ?_⟩
    · show 1 + clsL ps = ps.length + 1
      omega
    · show 0 + grsL ps = 0
      omega
theorem Nt.snoc (h : Pt) (t : List (Jt × Pt)) (j : Jt) (P : Pt) : (Nt.mk h (t ++ [(j, P)])).row = (Nt.mk h t).row ++ [.jt j] ++ P.row := by
  simp [Nt.row]
theorem Nt.len (h : Pt) (t : List (Jt × Pt)) : (Nt.mk h t).row.length ≤ 8 + 9 * t.length := by
  unfold Nt.row
  have := h.len
  have h2 : (t.flatMap fun p => Sg.jt p.1 :: p.2.row).length ≤ 9 * t.length := by
    induction t with
    | nil => simp
    | cons x t ih =>
      have := x.2.len
      simp only [List.flatMap_cons, List.length_append, List.length_cons]
      omega
  simp only [List.length_append]
  omega
theorem joint_of {d : D} (h : d ∈ [D.str "and", .str "or", .str "unless", .str "onlyif"]) : ∃ j : Jt, d = (Sg.jt j).d := by
  simp only [List.mem_cons, List.not_mem_nil, or_false] at h
  rcases h with rfl | rfl | rfl | rfl
  · exact ⟨.and, rfl⟩
  · exact ⟨.or, rfl⟩
  · exact ⟨.unless, rfl⟩
  · exact ⟨.onlyif, rfl⟩
theorem joint6_of {d : D} (h : d ∈ [D.str "and", .str "and", .str "or", .str "or", .str "unless", .str "onlyif"]) : ∃ j : Jt, d = (Sg.jt j).d := by
  refine joint_of ?_
  simp only [List.mem_cons, List.not_mem_nil, or_false] at h ⊢
  rcases h with h | h | h | h | h | h <;> simp [h]
section
variable {T : Nat → Option FD} {p : Nat}
/-- the turns that make the parts -/
def I1 (p m q n : Nat) (S0 : Store) (xs : List D) (G : Env) (S : Store) : Prop :=
  ∃ (ps : List Pt) (o3 o5 : Option D), G = [some (.loc p), some (.int m), some (.loc q), o3, none, o5, none, none, none] ∧ Up p S0 S ∧ S[q]? = some (.lst (ps.map Pt.d)) ∧ ps.length + xs.length = n ∧ ∀ P ∈ ps, isOne P
theorem parts_ok (h : HGen T) {k m q n : Nat} {S0 : Store} (hk : 3 ≤ k) (hn : n ≤ 1000) (hq : S0.length ≤ q) (hp : q ≠ p) {x : D} {xs : List D} {G : Env} {S : Store} (i : I1 p m q n S0 (x :: xs) G S) :
    ∃ G2, setTg G (.name 3) x = some G2 ∧ SP (evSs (callN T k) (.cons (.set 5 (.tup (.cons (.call 17 (.cons (.var 0) (.nil))) (.nil)))) (.cons (.ife (.cmp .Eq (.call 14 (.cons (.var 0) (.cons (.int 4) (.nil)))) (.int 0)) (.cons (.set 5 (.bin .Add (.tup (.cons (.str "not") (.nil))) (.var 5))) (.nil)) (.nil)) (.cons (.app (.var 2) (.var 5)) (.nil)))) G2 S) (I1 p m q n S0 xs) (fun _ _ => False) (fun _ _ => False) := by
  obtain ⟨ps, o3, o5, rfl, u, hS, hl, hO⟩ := i
  refine ⟨_, rfl, SP_cons.mpr (SP_set.mpr ?_)⟩
  simp [-SP_cons, setV]
  refine (clause_ok h hk u.sr).mono fun d S1 ⟨⟨c, hd⟩, u1⟩ => ?_
  subst hd
  simp [-SP_cons, lineN]
  have hS1 : S1[q]? = some (.lst (ps.map Pt.d)) := by rw [u1.old q (List.getElem?_eq_some_iff.mp hS).1 hp]; exact hS
  refine SP_cons.mpr (SP_ife.mpr ?_)
  simp [-Bool.exists_bool, -SP_cons]
  refine (draw_B h.toHSrc (by omega) u1.sr (m := 4) (by decide) (by decide)).mono fun d S2 ⟨⟨r, hr, h2, h3⟩, u2⟩ => ?_
  subst hr
  have hS2 : S2[q]? = some (.lst (ps.map Pt.d)) := by rw [u2.old q (List.getElem?_eq_some_iff.mp hS1).1 hp]; exact hS1
  have hpl : ps.length < 16777216 := by simp at hl; omega
  have fin : ∀ b : Bool, ∃ S3, appD S2 (.loc q) (Pt.one b c).d = some S3 ∧ I1 p m q n S0 xs [some (.loc p), some (.int m), some (.loc q), some x, none, some (Pt.one b c).d, none, none, none] S3 := fun b => by
    refine ⟨S2.set q (.lst (ps.map Pt.d ++ [(Pt.one b c).d])), ?_, ps ++ [.one b c], some x, some (Pt.one b c).d, rfl, Up.put ((u.trans u1).trans u2) hq hp, ?_, ?_, ?_⟩
    · simp [appD, hS2, lineN, hpl]
    · have := (List.getElem?_eq_some_iff.mp hS2).1
      simp [this]
    · simp at hl ⊢; omega
    · intro P hP
      rcases List.mem_append.mp hP with hP | hP
      · exact hO P hP
      · rw [List.mem_singleton.mp hP]; exact ⟨b, c, rfl⟩
  by_cases h0 : r = 0
  · subst h0
    simp [-Bool.exists_bool, setV, lineN, list_loc hS2]
    exact fin true
  · have h0' : (r == 0) = false := beq_false_of_ne h0
    simp [-Bool.exists_bool, h0', list_loc hS2]
    exact fin false
/-- the list of the parts, behind what may be put together -/
def P2 (p m : Nat) (S0 : Store) (G : Env) (S : Store) : Prop :=
  ∃ (ps : List Pt) (v : D) (o3 o5 o6 o7 o8 : Option D), G = [some (.loc p), some (.int m), some v, o3, none, o5, o6, o7, o8] ∧ Up p S0 S ∧ Hl S v (ps.map Pt.d) ∧ (∀ q, v = .loc q → q ≠ p) ∧ ps ≠ [] ∧ clsL ps ≤ m ∧ ps.length ≤ m ∧ grsL ps ≤ 1
theorem cut_row (n1 n2 : Bool) (c1 c2 : Cl) (j : Jt) : [D.str "("] ++ (ones n1 c1).map Sg.d ++ [(Sg.jt j).d] ++ (ones n2 c2).map Sg.d ++ [D.str ")"] = (Pt.grp false n1 c1 j n2 c2).row.map Sg.d := by
  simp [Pt.row, Sg.d]
theorem group_ok (h : HGen T) {k m q n : Nat} {S0 : Store} (hk : 3 ≤ k) (hm : m ≤ 1000) (hn : n ≤ m) (h1 : 1 ≤ n) (hq : S0.length ≤ q) (hp : q ≠ p) {G : Env} {S : Store} (i : I1 p m q n S0 [] G S) :
    SP (evS (callN T k) (.ife (.and (.cons (.cmp .Gt (.cb .len (.cons (.var 2) (.nil))) (.int 1)) (.cons (.cmp .Eq (.call 14 (.cons (.var 0) (.cons (.int 3) (.nil)))) (.int 0)) (.nil)))) (.cons (.set 6 (.call 14 (.cons (.var 0) (.cons (.bin .Sub (.cb .len (.cons (.var 2) (.nil))) (.int 1)) (.nil))))) (.cons (.set 7 (.call 15 (.cons (.var 0) (.cons (.lst (.cons (.str "and") (.cons (.str "or") (.cons (.str "unless") (.cons (.str "onlyif") (.nil)))))) (.nil))))) (.cons (.set 8 (.bin .Add (.bin .Add (.bin .Add (.bin .Add (.tup (.cons (.str "(") (.nil))) (.idx (.var 2) (.var 6))) (.tup (.cons (.var 7) (.nil)))) (.idx (.var 2) (.bin .Add (.var 6) (.int 1)))) (.tup (.cons (.str ")") (.nil))))) (.cons (.set 2 (.bin .Add (.bin .Add (.sl (.var 2) (.none) (.some (.var 6))) (.lst (.cons (.ite (.cmp .Eq (.call 14 (.cons (.var 0) (.cons (.int 3) (.nil)))) (.int 0)) (.bin .Add (.tup (.cons (.str "not") (.nil))) (.var 8)) (.var 8)) (.nil)))) (.sl (.var 2) (.some (.bin .Add (.var 6) (.int 2))) (.none)))) (.nil))))) (.nil)) G S) (P2 p m S0) (fun _ _ => False) (fun _ _ => False) := by
  obtain ⟨ps, o3, o5, rfl, u, hS, hl, hO⟩ := i
  simp only [List.length_nil, Nat.add_zero] at hl
  have stay : ∀ {S1 : Store}, Up p S S1 → P2 p m S0 [some (.loc p), some (.int m), some (.loc q), o3, none, o5, none, none, none] S1 := fun {S1} u1 => by
    have := ones_cls hO
    refine ⟨ps, .loc q, o3, o5, none, none, none, rfl, u.trans u1, (Hl.up (.inr ⟨q, rfl, hS⟩) u1 fun q' e => (by cases e; exact hp)), fun q' e => (by cases e; exact hp), ?_, by omega, by omega, by omega⟩
    rintro rfl
    simp at hl; omega
  refine SP_ife.mpr ?_
  by_cases hl1 : 1 < ps.length
  · have hl1' : (1 : Int) < ((ps.map Pt.d).length : Int) := by simp; omega
    simp [-Bool.exists_bool, -List.length_map, -SP_cons, len_loc hS, hl1']
    refine (draw_B h.toHSrc (by omega) u.sr (m := 3) (by decide) (by decide)).mono fun d S1 ⟨⟨r, hr, h2, h3⟩, u1⟩ => ?_
    subst hr
    by_cases h0 : r = 0
    · subst h0
      have hS1 : S1[q]? = some (.lst (ps.map Pt.d)) := by rw [u1.old q (List.getElem?_eq_some_iff.mp hS).1 hp]; exact hS
      simp [-Bool.exists_bool, -SP_cons]
      refine SP_cons.mpr (SP_set.mpr ?_)
      simp [-Bool.exists_bool, -SP_cons, len_loc hS1]
      refine (draw_B h.toHSrc (by omega) u1.sr (m := (ps.length : Int) - 1) (by omega) (by omega)).mono fun d S2 ⟨⟨r2, hr, h4, h5⟩, u2⟩ => ?_
      subst hr
      obtain ⟨a, rfl⟩ := Int.eq_ofNat_of_zero_le h4
      have ha : a + 1 < ps.length := by omega
      have hS2 : S2[q]? = some (.lst (ps.map Pt.d)) := by rw [u2.old q (List.getElem?_eq_some_iff.mp hS1).1 hp]; exact hS1
      simp [-Bool.exists_bool, -SP_cons, setV]
      refine SP_cons.mpr (SP_set.mpr ?_)
      simp [-Bool.exists_bool, -SP_cons, lineN]
      refine (choice_B h.toHSrc (by omega) u2.sr (by simp) (by decide)).mono fun d S3 ⟨hd, u3⟩ => ?_
      obtain ⟨j, rfl⟩ := joint_of hd
      have hS3 : S3[q]? = some (.lst (ps.map Pt.d)) := by rw [u3.old q (List.getElem?_eq_some_iff.mp hS2).1 hp]; exact hS2
      obtain ⟨n1, c1, e1⟩ := hO ps[a] (List.getElem_mem (by omega))
      obtain ⟨n2, c2, e2⟩ := hO ps[a + 1] (List.getElem_mem ha)
      have i1 : atD (ps.map Pt.d) (a : Int) = some (.tup ((ones n1 c1).map Sg.d)) := by
        rw [atD_nat (by simp; omega), List.getElem_map, e1]; rfl
      have i2 : atD (ps.map Pt.d) ((a : Int) + 1) = some (.tup ((ones n2 c2).map Sg.d)) := by
        have := atD_nat (ds := ps.map Pt.d) (k := a + 1) (by simpa using ha)
        rw [List.getElem_map, e2] at this
        exact (by simpa using this : atD (ps.map Pt.d) ((a : Int) + 1) = some (Pt.one n2 c2).d)
      have l1 := ones_len n1 c1
      have l2 := ones_len n2 c2
      simp [-Bool.exists_bool, -SP_cons, setV]
      refine SP_cons.mpr (SP_set.mpr ?_)
      simp [-Bool.exists_bool, -SP_cons, idx_loc hS3, i1, i2, lineN, and_assoc]
      refine ⟨by omega, by omega, by omega, ?_⟩
      have hw : D.str "(" :: ((ones n1 c1).map Sg.d ++ (Sg.jt j).d :: ((ones n2 c2).map Sg.d ++ [D.str ")"])) = (Pt.grp false n1 c1 j n2 c2).row.map Sg.d := by
        rw [← cut_row]; simp
      rw [hw]
      simp [-Bool.exists_bool, -SP_cons, setV]
      refine ⟨by omega, SP_cons.mpr (SP_set.mpr ?_)⟩
      have hsl : ∀ {S' : Store} {l u : Option Int}, S'[q]? = some (.lst (ps.map Pt.d)) → slOp S' (.loc q) l u = some (.lst (cutD (ps.map Pt.d) l u)) := fun hq => Hl.sl (.inr ⟨q, rfl, hq⟩)
      have k1 : cutD (ps.map Pt.d) none (some (a : Int)) = (ps.take a).map Pt.d := by rw [cut_lo, List.map_take]
      have k2 : cutD (ps.map Pt.d) (some ((a : Int) + 2)) none = (ps.drop (a + 2)).map Pt.d := by
        rw [show (a : Int) + 2 = ((a + 2 : Nat) : Int) by omega, cut_hi, List.map_drop]
      simp [-Bool.exists_bool, -SP_cons, -List.map_take, -List.map_drop, hsl hS3, k1]
      refine (draw_B h.toHSrc (by omega) u3.sr (m := 3) (by decide) (by decide)).mono fun d S4 ⟨⟨r4, hr, h6, h7⟩, u4⟩ => ?_
      subst hr
      have hS4 : S4[q]? = some (.lst (ps.map Pt.d)) := by rw [u4.old q (List.getElem?_eq_some_iff.mp hS3).1 hp]; exact hS3
      have lg := (Pt.grp false n1 c1 j n2 c2).len
      have fin : ∀ b : Bool, P2 p m S0 [some (.loc p), some (.int m), some (.lst ((ps.take a ++ (Pt.grp b n1 c1 j n2 c2 :: ps.drop (a + 2))).map Pt.d)), o3, none, o5, some (.int a), some (Sg.jt j).d, some (.tup ((Pt.grp false n1 c1 j n2 c2).row.map Sg.d))] S4 := fun b => by
        have hsplit : ps = ps.take a ++ (ps[a] :: ps[a + 1] :: ps.drop (a + 2)) := by
          conv => lhs; rw [← List.take_append_drop a ps]
          rw [List.drop_eq_getElem_cons (by omega : a < ps.length), List.drop_eq_getElem_cons ha]
        obtain ⟨cs, gs⟩ := ones_cls hO
        have cs2 : clsL ps = clsL (ps.take a ++ (Pt.grp b n1 c1 j n2 c2 :: ps.drop (a + 2))) := by
          conv => lhs; rw [hsplit]
          rw [e1, e2]
          simp only [clsL, List.map_append, List.map_cons, List.sum_append, List.sum_cons, Pt.cls]
          omega
        have gs2 : grsL (ps.take a ++ (Pt.grp b n1 c1 j n2 c2 :: ps.drop (a + 2))) = grsL ps + 1 := by
          conv => rhs; rw [hsplit]
          rw [e1, e2]
          simp only [grsL, List.map_append, List.map_cons, List.sum_append, List.sum_cons, Pt.grs]
          omega
        refine ⟨_, _, _, _, _, _, _, rfl, ((((u.trans u1).trans u2).trans u3).trans u4), .inl rfl, fun q' e => (by cases e), (by simp), by omega, ?_, by omega⟩
        simp
        omega
      have lt : ((ps.take a).map Pt.d).length ≤ 1000 := by simp; omega
      have ld : ((ps.drop (a + 2)).map Pt.d).length ≤ 1000 := by simp; omega
      by_cases h8 : r4 = 0
      · subst h8
        have hn1 : D.tup (D.str "not" :: (Pt.grp false n1 c1 j n2 c2).row.map Sg.d) = (Pt.grp true n1 c1 j n2 c2).d := by simp [Pt.d, Pt.row, Sg.d]
        simp [-Bool.exists_bool, -SP_cons, -List.map_take, -List.map_drop, -List.length_map, -List.length_take, -List.length_drop, lineN, hsl hS4, k2, and_assoc, setV]
        refine ⟨by simp; omega, by omega, by omega, ?_⟩
        have := fin true
        simpa [hn1] using this
      · have h8' : (r4 == 0) = false := beq_false_of_ne h8
        have hn1 : D.tup ((Pt.grp false n1 c1 j n2 c2).row.map Sg.d) = (Pt.grp false n1 c1 j n2 c2).d := rfl
        simp [-Bool.exists_bool, -SP_cons, -List.map_take, -List.map_drop, -List.length_map, -List.length_take, -List.length_drop, lineN, hsl hS4, k2, and_assoc, h8', setV]
        refine ⟨by omega, by omega, ?_⟩
        have := fin false
        simpa [hn1] using this
    · have h0' : (r == 0) = false := beq_false_of_ne h0
      simp [-Bool.exists_bool, h0']
      exact stay u1
  · have hl1' : ¬ (1 : Int) < ((ps.map Pt.d).length : Int) := by simp; omega
    simp [-Bool.exists_bool, -List.length_map, len_loc hS, hl1']
    exact stay (.refl u.sr)
/-- the turns that join the parts -/
def I3 (p m : Nat) (S0 : Store) (hd : Pt) (rest : List Pt) (xs : List D) (G : Env) (S : Store) : Prop :=
  ∃ (t : List (Jt × Pt)) (ys : List Pt) (o2 o3 o5 o6 o7 o8 : Option D), G = [some (.loc p), some (.int m), o2, o3, some (Nt.mk hd t).d, o5, o6, o7, o8] ∧ Up p S0 S ∧ rest = t.map (·.2) ++ ys ∧ xs = ys.map Pt.d
theorem notice_ok (h : HGen T) {k m : Nat} {S0 : Store} (hk : 4 ≤ k) (hm : m ≤ 1000) (hm1 : 1 ≤ m) (hs : Sr p S0) : EP (callN T k 18 [.loc p, .int (m : Nat)] S0) (fun d S' => (∃ n : Nt, d = n.d ∧ n.cls ≤ m ∧ n.tl.length < m ∧ n.grs ≤ 1) ∧ Up p S0 S') := by
  refine EP_callB h.h18 (by omega) rfl rfl ?_
  unfold f__law_notice b__law_notice
  refine SP_cons.mpr (SP_set.mpr ?_)
  have hp : S0.length ≠ p := by have := hs.lt; omega
  simp [-SP_cons, lineN, setV]
  refine SP_cons.mpr (SP_for.mpr ?_)
  simp [-SP_cons, lineN]
  refine (draw_B h.toHSrc (by omega) (Up.push hs).sr (m := m) (by omega) (by omega)).mono fun d S1 ⟨⟨r, hr, h2, h3⟩, u1⟩ => ?_
  subst hr
  obtain ⟨r, rfl⟩ := Int.eq_ofNat_of_zero_le h2
  have hro : rngOk 0 (1 + (r : Int)) = true := by
    unfold rngOk
    rw [decide_eq_true_eq]
    omega
  simp [-SP_cons, hro]
  have hrl : (rngD 0 (1 + (r : Int)).toNat).length = r + 1 := by simp [rngD]; omega
  refine SP_forGo (I1 p m S0.length (r + 1) S0) (fun _ _ _ _ => rfl) ?_ ?_ _ _ _ ⟨[], none, none, rfl, (Up.push hs).trans u1, ?_, (by rw [hrl]; simp), fun _ z => (by simp at z)⟩
  case refine_3 =>
    rw [u1.old _ (by simp) hp]
    simp
  case refine_2 =>
    intro x xs G S i
    obtain ⟨G2, h1, h2⟩ := parts_ok h (k := k - 1) (by omega) (by omega) (Nat.le_refl _) hp i
    exact ⟨G2, h1, SP.to h2 (fun _ _ z => z) (fun _ _ z => False.elim z) (fun _ _ z => False.elim z)⟩
  intro G S i
  refine SP_cons.mpr (SP.to (group_ok h (by omega) hm (by omega) (by omega) (Nat.le_refl _) hp i) ?_ (fun _ _ z => False.elim z) (fun _ _ z => False.elim z))
  rintro G2 S2 ⟨ps, v, o3, o5, o6, o7, o8, rfl, u, hv, hvp, hne, hc, hl, hg⟩
  obtain ⟨hd, rest, rfl⟩ : ∃ a l, ps = a :: l := by
    cases ps with
    | nil => exact absurd rfl hne
    | cons a l => exact ⟨a, l, rfl⟩
  refine SP_cons.mpr (SP_set.mpr ?_)
  simp [-SP_cons, hv.idx, setV]
  refine SP_cons.mpr (SP_for.mpr ?_)
  have kc : cutD (Pt.d hd :: rest.map Pt.d) (some 1) none = rest.map Pt.d := by
    have := cut_hi (xs := Pt.d hd :: rest.map Pt.d) (i := 1)
    simpa using this
  have hv' : Hl S2 v (Pt.d hd :: rest.map Pt.d) := hv
  simp [-SP_cons, hv'.sl, kc]
  refine SP_forGo (I3 p m S0 hd rest) (fun _ _ _ _ => rfl) ?_ ?_ _ _ _ ⟨[], rest, some v, o3, o5, o6, o7, o8, ?_, u, rfl, rfl⟩
  case refine_3 => simp [Nt.d, Nt.row, Pt.d]
  · rintro G S ⟨t, ys, o2, o3, o5, o6, o7, o8, rfl, u, e, e2⟩
    have hy : ys = [] := by cases ys <;> first | rfl | cases e2
    subst hy
    rw [List.append_nil] at e
    simp
    refine ⟨⟨⟨hd, t⟩, rfl, ?_, ?_, ?_⟩, u⟩
    · subst e
      simp only [clsL, List.map_cons, List.sum_cons, List.map_map] at hc
      simpa [Nt.cls, Function.comp_def] using hc
    · subst e
      simp only [List.length_cons, List.length_map] at hl
      show t.length < m
      omega
    · subst e
      simp only [grsL, List.map_cons, List.sum_cons, List.map_map] at hg
      simpa [Nt.grs, Function.comp_def] using hg
  · rintro x xs G S ⟨t, ys, o2, o3, o5, o6, o7, o8, rfl, u, e, e2⟩
    obtain ⟨P, ys, rfl⟩ : ∃ a l, ys = a :: l := by
      cases ys with
      | nil => cases e2
      | cons a l => exact ⟨a, l, rfl⟩
    simp only [List.map_cons, List.cons.injEq] at e2
    obtain ⟨rfl, rfl⟩ := e2
    refine ⟨_, rfl, SP_cons.mpr (SP_set.mpr ?_)⟩
    simp [-SP_cons, setV, lineN]
    refine (choice_B h.toHSrc (by omega) u.sr (by simp) (by decide)).mono fun d S2 ⟨hd2, u2⟩ => ?_
    obtain ⟨j, rfl⟩ := joint6_of hd2
    have l1 := Nt.len hd t
    have l2 := P.len
    have l3 : t.length ≤ 1000 := by
      have := congrArg List.length e
      simp at this hl
      omega
    simp [-SP_cons, lineN, Nt.d, Pt.d, and_assoc]
    refine ⟨by omega, by omega, ?_⟩
    refine ⟨t ++ [(j, P)], ys, o2, o3, some P.d, o6, o7, o8, ?_, u.trans u2, by simp [e], rfl⟩
    simp [Nt.d, Nt.snoc, Pt.d]
end
end NW
end
section
/- What is drawn is taken: facts of the drawn values. -/
namespace NW
open PySem
theorem Cl.ok (c : Cl) : c.d.ok = true ∧ c.d.fit 3 = true ∧ c.d.depth = 1 ∧ mClause c.d = true := by
  cases c with
  | pr w s => cases w <;> cases s <;> decide +kernel
  | alln s => cases s <;> decide +kernel
  | has n m =>
    revert n
    cases m <;> decide +kernel
theorem Sg.ok (s : Sg) : s.d.ok = true ∧ s.d.fit 3 = true ∧ s.d.depth ≤ 1 ∧ mSign s.d = true := by
  cases s with
  | cl c =>
    obtain ⟨h1, h2, h3, h4⟩ := c.ok
    refine ⟨h1, h2, Nat.le_of_eq h3, ?_⟩
    show mSign c.d = true
    rw [mSign_not]
    · exact h4
    · cases c <;> rfl
  | jt j => cases j <;> decide +kernel
  | nt => decide +kernel
  | lp => decide +kernel
  | rp => decide +kernel
theorem Sg.tup (s : Sg) : isTup s.d = (match s with | .cl _ => true | _ => false) := by
  cases s with
  | cl c => cases c <;> rfl
  | _ => rfl
theorem Sg.tk_cl (c : Cl) : tk (Sg.cl c).d = .x := by cases c <;> rfl
theorem Sg.tk_jt (j : Jt) : tk (Sg.jt j).d = .jt := by cases j <;> decide +kernel
theorem Sg.tk_nt : tk Sg.nt.d = .nt := by decide +kernel
theorem Sg.tk_lp : tk Sg.lp.d = .lp := by decide +kernel
theorem Sg.tk_rp : tk Sg.rp.d = .rp := by decide +kernel
def tks (row : List Sg) : List Tk := row.map fun s => tk s.d
theorem ones_acc (n : Bool) (c : Cl) (d : Nat) (r : List Tk) : acc d true (tks (ones n c) ++ r) = acc d false r := by
  cases n <;> simp [tks, ones, acc, Sg.tk_cl, Sg.tk_nt]
theorem Pt.acc (P : Pt) (d : Nat) (r : List Tk) : NW.acc d true (tks P.row ++ r) = NW.acc d false r := by
  cases P with
  | one n c => exact ones_acc n c d r
  | grp n n1 c1 j n2 c2 =>
    have e : ∀ r, NW.acc d true (.lp :: (tks (ones n1 c1) ++ (.jt :: (tks (ones n2 c2) ++ (.rp :: r))))) = NW.acc d false r := fun r => by
      simp only [NW.acc, ones_acc]
    have e2 := e r
    cases n <;> simp [Pt.row, tks, NW.acc, Sg.tk_cl, Sg.tk_nt, Sg.tk_lp, Sg.tk_rp, Sg.tk_jt] <;> simpa [tks, NW.acc] using e2
theorem tl_acc (t : List (Jt × Pt)) (d : Nat) (r : List Tk) : NW.acc d false (tks (t.flatMap fun p => Sg.jt p.1 :: p.2.row) ++ r) = NW.acc d false r := by
  induction t with
  | nil => rfl
  | cons x t ih =>
    have : tks ((x :: t).flatMap fun p => Sg.jt p.1 :: p.2.row) ++ r = .jt :: (tks x.2.row ++ (tks (t.flatMap fun p => Sg.jt p.1 :: p.2.row) ++ r)) := by
      simp [tks, Sg.tk_jt]
    rw [this]
    simp only [NW.acc, Pt.acc, ih]
theorem Nt.acc (n : Nt) : NW.acc 0 true (tks n.row) = true := by
  have : tks n.row = tks n.hd.row ++ (tks (n.tl.flatMap fun p => Sg.jt p.1 :: p.2.row) ++ []) := by simp [tks, Nt.row]
  rw [this, Pt.acc, tl_acc]
  rfl
def clc (row : List Sg) : Nat := ((row.map Sg.d).filter isTup).length
theorem clc_app (a b : List Sg) : clc (a ++ b) = clc a + clc b := by simp [clc]
theorem clc_cons (s : Sg) (a : List Sg) : clc (s :: a) = clc [s] + clc a := clc_app [s] a
theorem clc_cl (c : Cl) : clc [.cl c] = 1 := by simp [clc, Sg.tup]
theorem clc_jt (j : Jt) : clc [.jt j] = 0 := by simp [clc, Sg.tup]
theorem clc_nt : clc [.nt] = 0 := by simp [clc, Sg.tup]
theorem clc_lp : clc [.lp] = 0 := by simp [clc, Sg.tup]
theorem clc_rp : clc [.rp] = 0 := by simp [clc, Sg.tup]
theorem clc_nil : clc [] = 0 := rfl
theorem ones_clc (n : Bool) (c : Cl) : clc (ones n c) = 1 := by
  cases n
  · exact clc_cl c
  · show clc [.nt, .cl c] = 1
    rw [clc_cons, clc_nt, clc_cl]
theorem Pt.clc (P : Pt) : NW.clc P.row = P.cls := by
  cases P with
  | one n c => exact ones_clc n c
  | grp n n1 c1 j n2 c2 =>
    simp only [Pt.row, clc_app, clc_lp, clc_jt, clc_rp, ones_clc, Pt.cls]
    cases n <;> simp [clc_nt, clc_nil]
theorem Nt.clc (n : Nt) : NW.clc n.row = n.cls := by
  unfold Nt.row Nt.cls
  rw [clc_app, Pt.clc]
  congr 1
  induction n.tl with
  | nil => rfl
  | cons x t ih =>
    rw [List.flatMap_cons, clc_app, clc_cons, clc_jt, Pt.clc, ih]
    simp
theorem Pt.len2 (P : Pt) : P.row.length ≤ 2 * P.cls + 4 * P.grs := by
  cases P with
  | one n c => exact ones_len n c
  | grp n n1 c1 j n2 c2 => exact Pt.len _
theorem Nt.len2 (n : Nt) : n.row.length ≤ 2 * n.cls + 4 * n.grs + n.tl.length := by
  unfold Nt.row Nt.cls Nt.grs
  have := n.hd.len2
  rw [List.length_append]
  have h : (n.tl.flatMap fun p => Sg.jt p.1 :: p.2.row).length ≤ 2 * (n.tl.map fun p => p.2.cls).sum + 4 * (n.tl.map fun p => p.2.grs).sum + n.tl.length := by
    induction n.tl with
    | nil => simp
    | cons x t ih =>
      have := x.2.len2
      simp only [List.flatMap_cons, List.length_append, List.length_cons, List.map_cons, List.sum_cons]
      omega
  omega
theorem one_le (n : Nt) : 1 ≤ n.row.length := by
  have : 1 ≤ n.hd.row.length := by
    cases n.hd with
    | one n c => cases n <;> simp [Pt.row, ones]
    | grp n n1 c1 j n2 c2 => simp [Pt.row]; omega
  simp only [Nt.row, List.length_append]
  omega
theorem Nt.taken (n : Nt) (h1 : n.cls ≤ 4) (h2 : n.tl.length < 4) (h3 : n.grs ≤ 1) : mNotice n.d = true := by
  have hl := n.len2
  have h0 := one_le n
  have ha : (n.row.map Sg.d).all mSign = true := by
    rw [List.all_map, List.all_eq_true]
    exact fun s _ => s.ok.2.2.2
  have hc : ((n.row.map Sg.d).filter isTup).length ≤ 4 := by
    have := n.clc
    unfold NW.clc at this
    omega
  have hacc : NW.acc 0 true ((n.row.map Sg.d).map tk) = true := by
    rw [List.map_map]
    exact n.acc
  show (decide (1 ≤ (n.row.map Sg.d).length ∧ (n.row.map Sg.d).length ≤ 16) && ((n.row.map Sg.d).all mSign && (decide (((n.row.map Sg.d).filter isTup).length ≤ 4) && NW.acc 0 true ((n.row.map Sg.d).map tk)))) = true
  rw [ha, hacc, decide_eq_true hc, decide_eq_true ⟨by simpa using h0, by rw [List.length_map]; omega⟩]
  rfl
theorem fitL_map {α : Type} {n : Nat} (f : α → D) (l : List α) (h : ∀ a ∈ l, (f a).fit n = true) : D.fitL n (l.map f) = true := by
  rw [fitL_all, List.all_map, List.all_eq_true]
  exact h
mutual
theorem fit_le {n m : Nat} (h : n ≤ m) : ∀ d : D, d.fit n = true → d.fit m = true
  | .non, _ => rfl
  | .bl _, _ => rfl
  | .int _, _ => rfl
  | .str _, _ => rfl
  | .tup ds, q => by
    simp only [D.fit, Bool.and_eq_true, decide_eq_true_eq] at q ⊢
    exact ⟨by omega, fitL_le h ds q.2⟩
  | .lst ds, q => by
    simp only [D.fit, Bool.and_eq_true, decide_eq_true_eq] at q ⊢
    exact ⟨by omega, fitL_le h ds q.2⟩
  | .loc _, _ => rfl
  | .fn _, _ => rfl
  | .scr _, _ => rfl
theorem fitL_le {n m : Nat} (h : n ≤ m) : ∀ ds : List D, D.fitL n ds = true → D.fitL m ds = true
  | [], _ => rfl
  | d :: ds, q => by
    simp only [D.fitL, Bool.and_eq_true] at q ⊢
    exact ⟨fit_le h d q.1, fitL_le h ds q.2⟩
end
theorem depthL_map {α : Type} {n : Nat} (f : α → D) : ∀ (l : List α), (∀ a ∈ l, (f a).depth ≤ n) → D.depthL (l.map f) ≤ n
  | [], _ => by simp [D.depthL]
  | a :: l, h => by
    have h1 := h a (by simp)
    have h2 := depthL_map f l fun b hb => h b (by simp [hb])
    simp only [List.map_cons, D.depthL]
    omega
theorem Nt.plain (n : Nt) (h1 : n.cls ≤ 4) (h2 : n.tl.length < 4) (h3 : n.grs ≤ 1) : n.d.ok = true ∧ n.d.fit 16 = true ∧ n.d.depth ≤ 4 := by
  have hl := n.len2
  refine ⟨?_, ?_, ?_⟩
  · show (D.tup (n.row.map Sg.d)).ok = true
    rw [ok_tup, okL_all, List.all_map, List.all_eq_true]
    exact fun s _ => s.ok.1
  · show (D.tup (n.row.map Sg.d)).fit 16 = true
    simp only [D.fit, Bool.and_eq_true, decide_eq_true_eq, List.length_map]
    exact ⟨by omega, fitL_map _ _ fun s _ => fit_le (by decide) _ s.ok.2.1⟩
  · show (D.tup (n.row.map Sg.d)).depth ≤ 4
    have := depthL_map Sg.d n.row (n := 1) fun s _ => s.ok.2.2.1
    simp only [D.depth]
    omega
theorem pr_ok (w : Fw) (s : Bool) : (Fm.pr w s).d.ok = true ∧ (Fm.pr w s).d.fit 3 = true ∧ (Fm.pr w s).d.depth = 1 ∧ ∀ n, mForm (n + 1) (Fm.pr w s).d = true := by
  cases w <;> cases s <;> refine ⟨by decide +kernel, by decide +kernel, by decide +kernel, fun n => ?_⟩ <;> rfl
theorem num_ok (j : Bool) (n : Fin 3) (m : Mk) : (Fm.num j n m).d.ok = true ∧ (Fm.num j n m).d.fit 3 = true ∧ (Fm.num j n m).d.depth = 1 ∧ mAtom (Fm.num j n m).d = true := by
  revert n
  cases j <;> cases m <;> decide +kernel
theorem num_form (j : Bool) (n : Fin 3) (m : Mk) (k : Nat) : mForm (k + 1) (Fm.num j n m).d = mAtom (Fm.num j n m).d := by cases j <;> rfl
theorem Fm.plain : ∀ f : Fm, f.d.ok = true ∧ f.d.fit 3 = true ∧ f.d.depth = f.dep ∧ ∀ n, f.dep ≤ n → mForm n f.d = true
  | .pr w s => by
    obtain ⟨h1, h2, h3, h4⟩ := pr_ok w s
    refine ⟨h1, h2, h3, fun n hn => ?_⟩
    match n, hn with
    | n + 1, _ => exact h4 n
  | .num j n m => by
    obtain ⟨h1, h2, h3, h4⟩ := num_ok j n m
    refine ⟨h1, h2, h3, fun n hn => ?_⟩
    match n, hn with
    | n + 1, _ => rw [num_form]; exact h4
  | .not f => by
    obtain ⟨h1, h2, h3, h4⟩ := f.plain
    have hs : PyData.strOk ("not" : Str) = true := by decide +kernel
    refine ⟨?_, ?_, ?_, fun n hn => ?_⟩
    · simp [Fm.d, D.ok, D.okL, h1, hs]
    · simp [Fm.d, D.fit, D.fitL, h2]
    · simp [Fm.d, D.depth, D.depthL, h3, Fm.dep]
    · match n, hn with
      | n + 1, hn =>
        show (if ("not" : Str) = "not" then mForm n f.d else _) = true
        rw [if_pos rfl]
        exact h4 n (by simp only [Fm.dep] at hn; omega)
  | .bin w f g => by
    obtain ⟨h1, h2, h3, h4⟩ := f.plain
    obtain ⟨g1, g2, g3, g4⟩ := g.plain
    have hs : PyData.strOk w.s = true := by cases w <;> decide +kernel
    refine ⟨?_, ?_, ?_, fun n hn => ?_⟩
    · simp [Fm.d, D.ok, D.okL, h1, g1, hs]
    · simp [Fm.d, D.fit, D.fitL, h2, g2]
    · simp [Fm.d, D.depth, D.depthL, h3, g3, Fm.dep]
    · match n, hn with
      | n + 1, hn =>
        have hw : w.s ≠ "not" := by cases w <;> decide +kernel
        have hw2 : ([("and" : Str), "or", "if", "other"].any fun x => x == w.s) = true := by cases w <;> decide +kernel
        show (if w.s = "not" then _ else if ([("and" : Str), "or", "if", "other"].any fun x => x == w.s) = true then (mForm n f.d && mForm n g.d) else _) = true
        rw [if_neg hw, if_pos hw2, h4 n (by simp only [Fm.dep] at hn; omega), g4 n (by simp only [Fm.dep] at hn; omega)]
        rfl
end NW
end
section
/- A value with one part otherwise: what _law_bent keeps. -/
namespace NW
open PySem
/-- plain, of such a length and depth -/
structure Pln (v : D) (m n : Nat) : Prop where
  ok : v.ok = true
  fit : v.fit m = true
  dep : v.depth ≤ n
theorem Pln.le {v : D} {m n m' n' : Nat} (h : Pln v m n) (h1 : m ≤ m') (h2 : n ≤ n') : Pln v m' n' := ⟨h.ok, fit_le h1 _ h.fit, Nat.le_trans h.dep h2⟩
theorem Pln.tup {ds : List D} {m n : Nat} (hl : ds.length ≤ m) (h : ∀ d ∈ ds, Pln d m n) : Pln (.tup ds) m (n + 1) := by
  refine ⟨?_, ?_, ?_⟩
  · rw [ok_tup, okL_all, List.all_eq_true]
    exact fun d hd => (h d hd).ok
  · simp only [D.fit, Bool.and_eq_true, decide_eq_true_eq, fitL_all, List.all_eq_true]
    exact ⟨hl, fun d hd => (h d hd).fit⟩
  · have := depthL_map id ds (n := n) fun d hd => (h d hd).dep
    rw [List.map_id] at this
    simp only [D.depth]
    omega
theorem mem_dep : ∀ {ds : List D} {d : D}, d ∈ ds → d.depth ≤ D.depthL ds
  | _ :: _, _, .head _ => by simp only [D.depthL]; omega
  | _ :: ds, d, .tail _ h => by
    have := mem_dep h
    simp only [D.depthL]; omega
theorem Pln.mem {ds : List D} {m n : Nat} (h : Pln (.tup ds) m n) : ds.length ≤ m ∧ 1 ≤ n ∧ ∀ d ∈ ds, Pln d m (n - 1) := by
  obtain ⟨h1, h2⟩ := fit_tup h.fit
  have hd := h.dep
  simp only [D.depth] at hd
  refine ⟨h1, by omega, fun d hm => ⟨ok_tups h.ok d hm, h2 d hm, ?_⟩⟩
  have := mem_dep hm
  omega
def pool : List D := [.non, .bl true, .int 0, .int 1, .int 3, .int 4, .int (-1), .int (10 ^ 30), .int (10 ^ 30 + 1), .str "", .str "a", .str "both", .str "and", .str "or", .str "not"] ++ [.str "(", .str ")", .tup [], .lst []] ++ [.str "has", .str "least", .tup [.str "no", .str "b", .str "a"], .tup [.str "has", .int 2, .str "a"], .tup [.str "just", .int 2, .str "a"], .str "if"]
theorem pool_ok : pool.all (fun d => d.ok && (d.fit 3 && decide (d.depth ≤ 1))) = true := by decide +kernel
theorem pool_pln {d : D} (h : d ∈ pool) : Pln d 3 1 := by
  have := List.all_eq_true.mp pool_ok d h
  simp only [Bool.and_eq_true, decide_eq_true_eq] at this
  exact ⟨this.1, this.2.1, this.2.2⟩
def signs5 : List D := [.str "not", .str "and", .str "(", .str ")", .tup [.str "all", .str "a", .str "b"]]
theorem signs5_ok : signs5.all (fun d => d.ok && (d.fit 3 && decide (d.depth ≤ 1))) = true := by decide +kernel
theorem signs5_pln {d : D} (h : d ∈ signs5) : Pln d 3 1 := by
  have := List.all_eq_true.mp signs5_ok d h
  simp only [Bool.and_eq_true, decide_eq_true_eq] at this
  exact ⟨this.1, this.2.1, this.2.2⟩
theorem ne_unit {S : Store} {ds : List D} (h : ∀ d ∈ ds, d.ok = true) : cmpOp .NotEq S (.tup ds) (.tup []) = some (!ds.isEmpty) := by
  have := eq_unit (S := S) h
  rw [cmp_eq] at this
  rw [cmp_ne]
  split at this
  · rename_i hc
    rw [if_pos hc, Option.some.inj this]
  · cases this
section
variable {T : Nat → Option FD} {p : Nat}
theorem bent_ok (h : HSrc T) (h26 : Is T 26 f__law_bent) : ∀ (n k m : Nat) (v : D) (S : Store), n + 3 ≤ k → 3 ≤ m → m ≤ 1000 → Pln v m n → Sr p S → EP (callN T k 26 [.loc p, v] S) (fun d S' => Pln d (m + 1) (n + 1) ∧ Up p S S') := by
  intro n
  induction n using Nat.strongRecOn with
  | _ n ih =>
    intro k m v S hk hm hm2 hv hs
    refine EP_callB h26 (by omega) rfl rfl ?_
    unfold f__law_bent b__law_bent
    refine SP_cons.mpr (SP_set.mpr ?_)
    simp [-SP_cons]
    refine (draw_B h (by omega) hs (m := 8) (by decide) (by decide)).mono fun d S1 ⟨⟨w, hr, h2, h3⟩, u1⟩ => ?_
    subst hr
    simp [-SP_cons, setV]
    -- the leaf
    have leaf : ∀ {o4 o5 : Option D} {N Bk : Env → Store → Prop}, SP (evSs (callN T (k - 1)) (.cons (.set 3 (.lst (.cons (.non) (.cons (.bl true) (.cons (.int 0) (.cons (.int 1) (.cons (.int 3) (.cons (.int 4) (.cons (.neg (.int 1)) (.cons (.bin .Pow (.int 10) (.int 30)) (.cons (.bin .Add (.bin .Pow (.int 10) (.int 30)) (.int 1)) (.cons (.str "") (.cons (.str "a") (.cons (.str "both") (.cons (.str "and") (.cons (.str "or") (.cons (.str "not") (.nil)))))))))))))))))) (.cons (.set 3 (.bin .Add (.var 3) (.lst (.cons (.str "(") (.cons (.str ")") (.cons (.tup (.nil)) (.cons (.lst (.nil)) (.nil)))))))) (.cons (.set 3 (.bin .Add (.var 3) (.lst (.cons (.str "has") (.cons (.str "least") (.cons (.tup (.cons (.str "no") (.cons (.str "b") (.cons (.str "a") (.nil))))) (.cons (.tup (.cons (.str "has") (.cons (.int 2) (.cons (.str "a") (.nil))))) (.cons (.tup (.cons (.str "just") (.cons (.int 2) (.cons (.str "a") (.nil))))) (.cons (.str "if") (.nil)))))))))) (.cons (.ret (.call 15 (.cons (.var 0) (.cons (.var 3) (.nil))))) (.nil)))))
        [some (.loc p), some v, some (.int w), none, o4, o5] S1) N (fun d S' => Pln d (m + 1) (n + 1) ∧ Up p S S') Bk := fun {o4 o5 N Bk} => by
      have hpw : powOk 10 30 = true := by decide
      refine SP_cons.mpr (SP_set.mpr ?_)
      simp [-SP_cons, lineN, hpw, setV]
      refine SP_cons.mpr (SP_set.mpr ?_)
      simp [-SP_cons, lineN, setV]
      refine SP_cons.mpr (SP_set.mpr ?_)
      simp [-SP_cons, lineN, setV]
      refine SP_cons.mpr (SP_ret'.mpr ?_)
      simp
      refine (choice_B h (by omega) u1.sr (ds := pool) (by simp [pool]) (by decide)).mono fun d S2 ⟨hd, u2⟩ => ?_
      exact ⟨(pool_pln hd).le (by omega) (by omega), u1.trans u2⟩
    refine SP_cons.mpr (SP_ife.mpr ?_)
    by_cases ht : isTup v = true
    · obtain ⟨ds, rfl⟩ : ∃ ds, v = .tup ds := by cases v <;> first | exact ⟨_, rfl⟩ | cases ht
      obtain ⟨hl, hn1, hds⟩ := hv.mem
      have hne := ne_unit (S := S1) fun d hd => (hds d hd).ok
      by_cases he : ds.isEmpty = true
      · rw [he] at hne
        simp [-Bool.exists_bool, -SP_cons, hne, lineN]
        exact leaf
      · rw [Bool.eq_false_iff.mpr he] at hne
        by_cases hw : 0 < w
        · simp [-Bool.exists_bool, -SP_cons, hne, lineN, hw]
          have hlen : 0 < ds.length := by
            cases ds with
            | nil => exact absurd rfl he
            | cons _ _ => simp
          refine SP_cons.mpr (SP_set.mpr ?_)
          simp [-SP_cons]
          refine (draw_B h (by omega) u1.sr (m := (ds.length : Int)) (by omega) (by omega)).mono fun d S2 ⟨⟨a, hr, h4, h5⟩, u2⟩ => ?_
          subst hr
          obtain ⟨a, rfl⟩ := Int.eq_ofNat_of_zero_le h4
          have ha : a < ds.length := by omega
          have k1 : cutD ds none (some (a : Int)) = ds.take a := cut_lo
          have k2 : cutD ds (some (a : Int)) none = ds.drop a := cut_hi
          have k3 : cutD ds none (some ((a : Int) + 1)) = ds.take (a + 1) := cut_lo (i := a + 1)
          have k4 : cutD ds (some ((a : Int) + 1)) none = ds.drop (a + 1) := cut_hi (i := a + 1)
          have l1 : (ds.take a).length = a := by rw [List.length_take]; omega
          have l2 : (ds.drop a).length = ds.length - a := List.length_drop
          have l3 : (ds.take (a + 1)).length = a + 1 := by rw [List.length_take]; omega
          have l4 : (ds.drop (a + 1)).length = ds.length - (a + 1) := List.length_drop
          have mt : ∀ {i : Nat}, ∀ x ∈ ds.take i, Pln x (m + 1) n := fun x hx => (hds x (List.mem_of_mem_take hx)).le (by omega) (by omega)
          have md : ∀ {i : Nat}, ∀ x ∈ ds.drop i, Pln x (m + 1) n := fun x hx => (hds x (List.mem_of_mem_drop hx)).le (by omega) (by omega)
          simp [-SP_cons, setV]
          refine SP_cons.mpr (SP_ife.mpr ?_)
          by_cases w1 : w = 1
          · subst w1
            simp [-Bool.exists_bool, k1, k4, l1, l4, lineN, and_assoc]
            refine ⟨by omega, Pln.tup (by simp [l1, l4]; omega) ?_, u1.trans u2⟩
            intro d hd
            rcases List.mem_append.mp hd with hd | hd
            · exact mt d hd
            · exact md d hd
          have w1' : (w == 1) = false := beq_false_of_ne w1
          simp [-Bool.exists_bool, -SP_cons, w1']
          refine SP_cons.mpr (SP_ife.mpr ?_)
          by_cases w2 : w = 2
          · subst w2
            simp [-Bool.exists_bool, k3, k2, l3, l2, lineN, and_assoc]
            refine ⟨by omega, Pln.tup (by simp [l3, l2]; omega) ?_, u1.trans u2⟩
            intro d hd
            rcases List.mem_append.mp hd with hd | hd
            · exact mt d hd
            · exact md d hd
          have w2' : (w == 2) = false := beq_false_of_ne w2
          simp [-Bool.exists_bool, -SP_cons, w2']
          refine SP_cons.mpr (SP_ife.mpr ?_)
          by_cases w3 : w = 3
          · subst w3
            simp [-Bool.exists_bool, -SP_cons]
            refine SP_cons.mpr (SP_set.mpr ?_)
            simp [-SP_cons, lineN]
            refine (choice_B h (by omega) u2.sr (ds := signs5) (by simp [signs5]) (by decide)).mono fun d S3 ⟨hd, u3⟩ => ?_
            have hdp := signs5_pln hd
            simp [-Bool.exists_bool, setV, k1, k2, l1, l2, lineN, and_assoc]
            refine ⟨by omega, by omega, Pln.tup (by simp [l1, l2]; omega) ?_, (u1.trans u2).trans u3⟩
            intro x hx
            rcases List.mem_append.mp hx with hx | hx
            · exact mt x hx
            · rcases List.mem_cons.mp hx with rfl | hx
              · exact hdp.le (by omega) (by omega)
              · exact md x hx
          have w3' : (w == 3) = false := beq_false_of_ne w3
          simp [-Bool.exists_bool, -SP_cons, w3']
          refine SP_cons.mpr (SP_ret'.mpr ?_)
          simp [-Bool.exists_bool, k1, atD_nat ha]
          obtain ⟨n, rfl⟩ : ∃ j, n = j + 1 := ⟨n - 1, by omega⟩
          refine EP.to (ih n (by omega) (k - 1) m ds[a] S2 (by omega) hm hm2 (hds _ (List.getElem_mem ha)) u2.sr) fun d S3 ⟨hd, u3⟩ => ?_
          simp [-Bool.exists_bool, k4, l1, l4, lineN, and_assoc]
          refine ⟨by omega, by omega, Pln.tup (by simp [l1, l4]; omega) ?_, (u1.trans u2).trans u3⟩
          intro x hx
          rcases List.mem_append.mp hx with hx | hx
          · exact mt x hx
          · rcases List.mem_cons.mp hx with rfl | hx
            · exact hd
            · exact md x hx
        · simp [-Bool.exists_bool, -SP_cons, hne, lineN, hw]
          exact leaf
    · have ht' := Bool.eq_false_iff.mpr ht
      simp [-Bool.exists_bool, -SP_cons, isi_tup' hv.ok, ht']
      exact leaf
end
end NW
end
section
/- The law k01: its body. -/
namespace NW
open PySem
def one1 : D := .tup [.str "all", .str "a", .str "b"]
def rows1 : List D := [.tup [one1], .tup [.str "not", one1], .tup [one1, .str "and", one1], .tup [.str "(", one1, .str ")"],
  .tup [.str "not", .str "(", .str "not", one1, .str "or", one1, .str ")"], .tup [one1, one1],
  .tup [.str "not"], .tup [], .tup [.str "(", one1], .tup [one1, .str ")"], .tup [.str "and", one1], .tup [one1, .str "and"], .tup [.str "(", .str ")"], .tup [one1, .str "not", one1]] ++
  [.tup (List.replicate 15 (.str "not") ++ [one1]), .tup (List.replicate 16 (.str "not") ++ [one1]), .tup ((List.replicate 3 [one1, .str "or"]).flatten ++ [one1]), .tup ((List.replicate 4 [one1, .str "or"]).flatten ++ [one1])]
def due1 : List Bool := [true, true, true, true, true, false, false, false, false, false, false, false, false, false, true, false, true, false]
def rows3 : List D := [.tup [.int 0, .int 0, .int 0, .int 0], .tup (List.replicate 4 (.int (10 ^ 30))), .tup [.int (10 ^ 30 + 1), .int 0, .int 0, .int 0], .tup [.int 0, .int 0, .int 0], .tup [.bl true, .int 0, .int 0, .int 0], .tup [.int 0, .int 0, .int 0, .int (-1)], .lst [.int 0, .int 0, .int 0, .int 0]]
def deep1 : Nat → D
  | 0 => one1
  | n + 1 => .tup [.str "not", deep1 n]
def rows2 (n : Nat) : List D := (List.range n).map deep1
theorem rows1_ok : rows1.all (fun d => d.ok && d.fit 20) = true := by decide +kernel
theorem rows1_due : rows1.map mNotice = due1 := by decide +kernel
theorem rows2_ok : (rows2 11).all (fun d => d.ok && d.fit 20) = true := by decide +kernel
theorem rows2_due : (rows2 11).map (mForm 10) = List.replicate 10 true ++ [false] := by decide +kernel
theorem rows3_ok : rows3.all (fun d => d.ok && d.fit 20) = true := by decide +kernel
theorem rows3_due : rows3.map mHouse = [true, true, false, false, false, false, false] := by decide +kernel
theorem eq_bls {S : Store} (xs ys : List Bool) : cmpOp .Eq S (.lst (xs.map .bl)) (.lst (ys.map .bl)) = some (decide (xs = ys)) := by
  have hk : ∀ l : List Bool, D.okL (l.map .bl) = true := fun l => by rw [okL_all, List.all_map]; simp [D.ok]
  have hd : ∀ l : List Bool, D.depthL (l.map .bl) = 0 := fun l => by
    have := depthL_map D.bl l (n := 0) fun b _ => by simp [D.depth]
    omega
  have hok : eqOk (.lst (xs.map .bl)) (.lst (ys.map .bl)) = true := by
    unfold eqOk
    rw [ok_lst, ok_lst, hk, hk]
    simp [D.depth, hd]
  have he : ∀ xs ys : List Bool, D.eqvL (xs.map .bl) (ys.map .bl) = decide (xs = ys) := by
    intro xs
    induction xs with
    | nil => intro ys; cases ys <;> simp
    | cons x xs ih =>
      intro ys
      cases ys with
      | nil => simp
      | cons y ys =>
        have : D.eqv (.bl x) (.bl y) = (x == y) := by simp only [D.eqv]
        simp [ih, this]
        cases x <;> cases y <;> simp
  rw [cmp_eq, flat_lst, flat_lst, hok, if_pos rfl, eqv_lst_lst, he]
theorem ne_bls' {S : Store} (xs ys : List Bool) : cmpOp .NotEq S (.lst (xs.map .bl)) (.lst (ys.map .bl)) = some (!decide (xs = ys)) := by
  have := eq_bls (S := S) xs ys
  rw [cmp_eq] at this
  rw [cmp_ne]
  split at this
  · rename_i hc
    rw [if_pos hc, Option.some.inj this]
  · cases this
structure H1 (T : Nat → Option FD) : Prop where
  g : HGen T
  l : HLaw1 T
  n : HNot T
  h19 : Is T 19 f__law_formula
  h26 : Is T 26 f__law_bent
  h27 : Is T 27 f__law_told
section
variable {T : Nat → Option FD}
theorem notice_B (h : HNot T) {k : Nat} {v : D} {S : Store} (hk : 36 ≤ k) (hv : v.ok = true) (hf : v.fit lineN = true) : callN T k 8 [v] S = .ok (.bl (mNotice v)) S := by
  obtain ⟨j, rfl⟩ : ∃ j, k = j + 36 := ⟨k - 36, by omega⟩
  exact notice_eq h hv hf
theorem formula_B (h : HNot T) {k : Nat} {v : D} {S : Store} (hk : 15 ≤ k) (hv : v.ok = true) (hf : v.fit lineN = true) : callN T k 12 [v] S = .ok (.bl (mForm 10 v)) S := by
  obtain ⟨j, rfl⟩ : ∃ j, k = j + 15 := ⟨k - 15, by omega⟩
  exact formula_eq h hv hf
theorem house_B (h : HNot T) {k : Nat} {v : D} {S : Store} (hk : 2 ≤ k) (hv : v.ok = true) (hf : v.fit lineN = true) : callN T k 9 [v] S = .ok (.bl (mHouse v)) S := by
  obtain ⟨j, rfl⟩ : ∃ j, k = j + 2 := ⟨k - 2, by omega⟩
  exact house_eq h.toHVal hv hf
theorem told_B (h : H1 T) {k : Nat} {v : D} {S : Store} (hk : 37 ≤ k) (hv : v.ok = true) (hf : v.fit lineN = true) : callN T k 27 [v] S = .ok (.bl true) S := by
  obtain ⟨j, rfl⟩ : ∃ j, k = j + 37 := ⟨k - 37, by omega⟩
  exact told_eq h.l h.n h.h27 hv hf
theorem fit20 {d : D} (h : d.fit 20 = true) : d.fit lineN = true := fit_le (by show 20 ≤ 16777216; omega) _ h
/-- a comprehension of a recogniser -/
theorem comp_rec {k f j : Nat} {S : Store} {g : D → Bool} {rows : List D} {src : Src} (hj : ∀ G : Env, True) (hst : src.stays S = true) (hr : rows.all (fun d => d.ok && d.fit 20) = true) (hl : rows.length ≤ 100)
    (hc : ∀ v : D, v.ok = true → v.fit lineN = true → callN T k f [v] S = .ok (.bl (g v)) S) {G : Env} (hG : j < G.length) :
    compGo (.name j) none (evE (callN T k) (.call f (.cons (.var j) (.nil)))) src G rows [] S = .ok (.lst ((rows.map g).map .bl)) S := by
  have hr' := List.all_eq_true.mp hr
  have := compGo_pure (tg := .name j) (c := none) (elt := evE (callN T k) (.call f (.cons (.var j) (.nil)))) (src := src) (G := G) (S := S) (fun _ => true) (fun v => .bl (g v)) hst rows [] (by show 0 + _ ≤ 16777216; omega) fun x hx => ⟨_, rfl, rfl, fun _ => by
    have h := hr' x hx
    rw [Bool.and_eq_true] at h
    refine EP_pure ?_
    simp [setV, hG, hc x h.1 (fit20 h.2)]⟩
  rw [this, List.nil_append, List.filter_eq_self.mpr fun _ _ => rfl, List.map_map]
  rfl
/-- the fixed rows -/
theorem fixed_ok (h : H1 T) {k : Nat} (hk : 40 ≤ k) {ss : Ss} {s : NW.S} (hb : b_law_k01 = .cons s ss) {o0 o1 o2 o3 o4 o5 o6 o7 o8 o9 o10 o11 o12 o13 : Option D} {S : Store} {N Bk : Env → Store → Prop} :
    SP (evSs (callN T k) ss [o0, o1, o2, o3, o4, o5, o6, o7, o8, o9, o10, o11, o12, o13] S) N (fun d _ => d = .bl true) Bk := by
  unfold b_law_k01 at hb
  cases hb
  refine SP_cons.mpr (SP_set.mpr (EPX.eq (S := S) (a := one1) (by kernel_rfl) ?_))
  refine SP_cons.mpr (SP_set.mpr (EPX.eq (S := S) (a := .lst (rows1.take 4)) (by kernel_rfl) ?_))
  refine SP_cons.mpr (SP_set.mpr (EPX.eq (S := S) (a := .lst (rows1.take 6)) (by kernel_rfl) ?_))
  refine SP_cons.mpr (SP_set.mpr (EPX.eq (S := S) (a := .lst (rows1.take 14)) (by kernel_rfl) ?_))
  refine SP_cons.mpr (SP_set.mpr (EPX.eq (S := S) (a := .lst rows1) (by kernel_rfl) ?_))
  refine SP_cons.mpr (SP_set.mpr (EPX.eq (S := S) (a := .lst (due1.map .bl)) (by kernel_rfl) ?_))
  refine SP_cons.mpr (SP_ife.mpr ?_)
  have hs1 : (Src.mk rows1 none).stays S = true := rfl
  have cr := fun {G : Env} => comp_rec (T := T) (G := G) (k := k) (f := 8) (j := 12) (g := mNotice) (src := ⟨rows1, none⟩) (S := S) (fun _ => trivial) hs1 rows1_ok (by decide) fun v hv hf => notice_B h.n (by omega) hv hf
  have n1 := ne_bls' (S := S) (rows1.map mNotice) due1
  rw [rows1_due, decide_eq_true rfl] at n1
  have t1 := notice_B (S := S) (k := k) h.n (by omega) (v := .tup [.tup [.str "has", .int 0, .str "a"]]) (by decide +kernel) (by decide +kernel)
  have t2 := notice_B (S := S) (k := k) h.n (by omega) (v := .tup [.tup [.str "all", .str "a", .str "a"]]) (by decide +kernel) (by decide +kernel)
  rw [show mNotice (.tup [.tup [.str "has", .int 0, .str "a"]]) = false by decide +kernel] at t1
  rw [show mNotice (.tup [.tup [.str "all", .str "a", .str "a"]]) = false by decide +kernel] at t2
  simp only [setV, List.set_cons_succ, List.set_cons_zero]
  simp [-Bool.exists_bool, -SP_cons, -List.map_map, cr, n1, rows1_due, wipeE, t1, lineN]
  refine SP_cons.mpr (SP_ife.mpr ?_)
  simp [-Bool.exists_bool, -SP_cons, t2, lineN]
  refine SP_cons.mpr (SP_set.mpr ?_)
  simp [-Bool.exists_bool, -SP_cons, lineN, setV]
  refine SP_cons.mpr (SP_for.mpr ?_)
  have hro : rngOk 0 10 = true := by decide
  simp [-Bool.exists_bool, -SP_cons, hro]
  refine SP_forGo (fun xs G S' => ∃ (i : Nat) (o6' : Option D), i + xs.length = 10 ∧ G = [o0, o1, some one1, some (.lst rows1), some (.lst (due1.map .bl)), some (.loc S.length), o6', o7, o8, o9, o10, o11, o12, o13] ∧ S'[S.length]? = some (.lst (rows2 (i + 1)))) (fun _ _ _ _ => rfl) ?_ ?_ _ _ _ ⟨0, o6, by simp [rngD], rfl, by simp [rows2, deep1]⟩
  · rintro G S' ⟨i, o6', hi, rfl, hS⟩
    simp only [List.length_nil, Nat.add_zero] at hi
    subst hi
    have hs2 : (Src.mk (rows2 11) (some S.length)).stays S' = true := by
      simp only [Src.stays, hS]
      decide +kernel
    have c2 := fun {G : Env} => comp_rec (T := T) (G := G) (k := k) (f := 12) (j := 12) (g := mForm 10) (src := ⟨rows2 11, some S.length⟩) (S := S') (fun _ => trivial) hs2 rows2_ok (by decide) fun v hv hf => formula_B h.n (by omega) hv hf
    have n2 := ne_bls' (S := S') ((rows2 11).map (mForm 10)) (List.replicate 10 true ++ [false])
    rw [rows2_due, decide_eq_true rfl] at n2
    have e2 : repLst [.bl true] 10 = some (.lst ((List.replicate 10 true).map .bl)) := by kernel_rfl
    have e3 : srcOf S' (.loc S.length) = some ⟨rows2 11, some S.length⟩ := by simp only [srcOf, hS]
    refine SP_cons.mpr (SP_ife.mpr ?_)
    have n2' : cmpOp .NotEq S' (.lst [.bl true, .bl true, .bl true, .bl true, .bl true, .bl true, .bl true, .bl true, .bl true, .bl true, .bl false]) (.lst [.bl true, .bl true, .bl true, .bl true, .bl true, .bl true, .bl true, .bl true, .bl true, .bl true, .bl false]) = some false := n2
    simp [-Bool.exists_bool, -SP_cons, -List.map_map, -List.map_replicate, wipeE, e3, c2, rows2_due, lineN, e2, n2']
    refine SP_cons.mpr (SP_set.mpr (EPX.eq (S := S') (a := .lst rows3) (by kernel_rfl) ?_))
    refine SP_cons.mpr (SP_ret'.mpr ?_)
    have hs3 : (Src.mk rows3 none).stays S' = true := rfl
    have c3 := fun {G : Env} => comp_rec (T := T) (G := G) (k := k) (f := 9) (j := 12) (g := mHouse) (src := ⟨rows3, none⟩) (S := S') (fun _ => trivial) hs3 rows3_ok (by decide) fun v hv hf => house_B h.n (by omega) hv hf
    have n3 := eq_bls (S := S') (rows3.map mHouse) [true, true, false, false, false, false, false]
    rw [rows3_due, decide_eq_true rfl] at n3
    simp only [List.map_cons, List.map_nil] at n3
    simp [-Bool.exists_bool, -List.map_map, wipeE, c3, rows3_due, lineN, n3, setV]
  · rintro x xs G S' ⟨i, o6', hi, rfl, hS⟩
    refine ⟨_, rfl, SP_cons.mpr (SP_app.mpr ?_)⟩
    simp only [List.length_cons] at hi
    have hix : atD (rows2 (i + 1)) (-1) = some (deep1 i) := by
      unfold atD ixAt
      have hl : (rows2 (i + 1)).length = i + 1 := by simp [rows2]
      rw [hl, if_neg (by omega), if_pos (by omega)]
      have e : (-1 + ((i + 1 : Nat) : Int)).toNat = i := by omega
      rw [Option.bind_some, e]
      simp [rows2]
    simp [setV, list_loc hS, idx_loc hS, hix, lineN, appD, hS]
    have hl : (rows2 (i + 1)).length = i + 1 := by simp [rows2]
    refine ⟨S'.set S.length (.lst (rows2 (i + 1) ++ [D.tup [D.str (Str.ofString "not"), deep1 i]])), if_pos (by omega), i + 1, by omega, ?_⟩
    have hq := (List.getElem?_eq_some_iff.mp hS).1
    have hr : rows2 (i + 1) ++ [D.tup [D.str (Str.ofString "not"), deep1 i]] = rows2 (i + 1 + 1) := by
      unfold rows2
      rw [List.range_succ (n := i + 1), List.map_append]
      rfl
    rw [hr, List.getElem?_set_self hq]
end
end NW
end
section
/- The law k01: its turns. -/
namespace NW
open PySem
theorem rng_mem {n : Nat} {x : D} (h : x ∈ rngD 0 n) : ∃ i : Nat, x = .int (i : Nat) ∧ i < n := by
  simp only [rngD, List.mem_map, List.mem_range] at h
  obtain ⟨i, hi, rfl⟩ := h
  exact ⟨i, by simp, hi⟩
theorem Pln.lst {ds : List D} {m n : Nat} (h : Pln (.tup ds) m n) : (D.lst ds).ok = true ∧ (D.lst ds).fit m = true := ⟨by rw [ok_lst, ← ok_tup]; exact h.ok, h.fit⟩
theorem Pln.line {v : D} {m n : Nat} (h : Pln v m n) (hm : m ≤ 1000) : v.fit lineN = true := fit_le (by show m ≤ 16777216; omega) _ h.fit
theorem Fm.tup (f : Fm) : ∃ ds, f.d = .tup ds := by cases f <;> exact ⟨_, rfl⟩
section
variable {T : Nat → Option FD}
def It1 (p : Nat) (ns : List Int) (n f h v : D) (o1 : Option D) (xs : List D) (G : Env) (S : Store) : Prop :=
  ∃ (o2 o3 o4 o5 o6 o9 o12 o13 : Option D), G = [some (.scr ns), o1, o2, o3, o4, o5, o6, some (.loc p), some h, o9, some n, some f, o12, o13] ∧ Sr p S ∧ ∀ x ∈ xs, Pln x 16 4
def It2 (p : Nat) (ns : List Int) (n f h x : D) (o1 : Option D) (xs : List D) (G : Env) (S : Store) : Prop :=
  ∃ (j : Nat) (v : D) (o2 o3 o4 o5 o6 o13 : Option D), G = [some (.scr ns), o1, o2, o3, o4, o5, o6, some (.loc p), some h, some x, some n, some f, some v, o13] ∧ Sr p S ∧ Pln v (16 + j) (4 + j) ∧ j + xs.length = 10 ∧ ∀ y ∈ xs, ∃ i : Nat, y = .int (i : Nat)
theorem turns_ok (h : H1 T) {k p : Nat} (hk : 50 ≤ k) {ns : List Int} {n f hh : D} {o1 : Option D} {G : Env} {S : Store} (i : It1 p ns n f hh hh o1 [n, f, hh] G S) :
    SP (evS (callN T k) (.for_ (.name 9) (.e (.lst (.cons (.var 10) (.cons (.var 11) (.cons (.var 8) (.nil)))))) (.cons (.set 12 (.var 9)) (.cons (.for_ (.name 6) (.rng (.int 10)) (.cons (.ife (.not (.call 27 (.cons (.var 12) (.nil)))) (.cons (.ret (.bl false)) (.nil)) (.nil)) (.cons (.set 12 (.call 26 (.cons (.var 7) (.cons (.ite (.cmp .Eq (.bin .Mod (.var 6) (.int 4)) (.int 0)) (.var 9) (.var 12)) (.nil))))) (.nil)))) (.nil)))) G S)
      (It1 p ns n f hh hh o1 []) (fun _ _ => False) (fun _ _ => False) := by
  obtain ⟨o2, o3, o4, o5, o6, o9, o12, o13, rfl, hs, hp⟩ := i
  refine SP_for.mpr ?_
  simp [-SP_cons, lineN]
  refine SP_forGo (It1 p ns n f hh hh o1) (fun _ _ _ _ => rfl) (fun _ _ z => z) ?_ _ _ _ ⟨o2, o3, o4, o5, o6, o9, o12, o13, rfl, hs, hp⟩
  rintro x xs G S ⟨o2, o3, o4, o5, o6, o9, o12, o13, rfl, hs, hp⟩
  have hx := hp x (by simp)
  refine ⟨_, rfl, SP_cons.mpr (SP_set.mpr ?_)⟩
  simp [-SP_cons, setV]
  refine SP_cons.mpr (SP_for.mpr ?_)
  have hro : rngOk 0 10 = true := by decide
  simp [-SP_cons, hro]
  refine SP_forGo (It2 p ns n f hh x o1) (fun _ _ _ _ => rfl) ?_ ?_ _ _ _ ⟨0, x, o2, o3, o4, o5, o6, o13, rfl, hs, hx, by simp [rngD], fun y hy => by obtain ⟨i, e, _⟩ := rng_mem hy; exact ⟨i, e⟩⟩
  · rintro G S ⟨j, v, o2, o3, o4, o5, o6, o13, rfl, hs, _, _, _⟩
    exact ⟨_, _, _, _, _, _, _, _, rfl, hs, fun y hy => hp y (by simp [hy])⟩
  · rintro y ys G S ⟨j, v, o2, o3, o4, o5, o6, o13, rfl, hs, hv, hj, hys⟩
    obtain ⟨i, rfl⟩ := hys y (by simp)
    simp only [List.length_cons] at hj
    have ht := told_B h (k := k) (S := S) (by omega) hv.ok (hv.line (by omega))
    refine ⟨_, rfl, SP_cons.mpr (SP_ife.mpr ?_)⟩
    simp [-Bool.exists_bool, -SP_cons, setV, ht]
    refine SP_cons.mpr (SP_set.mpr ?_)
    simp [-Bool.exists_bool, -SP_cons, setV]
    have fin : ∀ w, Pln w (16 + j) (4 + j) → EP (callN T k 26 [.loc p, w] S) (fun d S' => It2 p ns n f hh x o1 ys [some (.scr ns), o1, o2, o3, o4, o5, some (.int (i : Nat)), some (.loc p), some hh, some x, some n, some f, some d, o13] S') := fun w hw =>
      (bent_ok h.g.toHSrc h.h26 (4 + j) k (16 + j) w S (by omega) (by omega) (by omega) hw hs).mono fun d S' ⟨hd, u⟩ =>
        ⟨j + 1, d, _, _, _, _, _, _, rfl, u.sr, hd, by omega, fun z hz => hys z (by simp [hz])⟩
    by_cases hm : (i : Int) % 4 = 0
    · simp [-Bool.exists_bool, hm]
      exact fin x (hx.le (by omega) (by omega))
    · have hm' : ((i : Int) % 4 == 0) = false := beq_false_of_ne hm
      simp [-Bool.exists_bool, hm']
      exact fin v hv
def It0 (ns : List Int) (xs : List D) (G : Env) (S : Store) : Prop :=
  ∃ (o1 o2 o3 o4 o5 o6 o7 o8 o9 o10 o11 o12 o13 : Option D), G = [some (.scr ns), o1, o2, o3, o4, o5, o6, o7, o8, o9, o10, o11, o12, o13] ∧ ∀ x ∈ xs, ∃ i : Nat, x = .int (i : Nat) ∧ i < 1000
theorem draws4 (h : HSrc T) {k p : Nat} (hk : 1 ≤ k) {src : Src} (hst : ∀ S, src.stays S = true) {G : Env} {j : Nat} (hj : j < G.length) (h7 : G[7]? = some (some (.loc p))) (hj7 : j ≠ 7) {xs : List D} (hx : xs.length = 4) {S : Store} (hs : Sr p S) :
    EP (compGo (.name j) none (evE (callN T k) (.call 14 (.cons (.var 7) (.cons (.int 10) (.nil))))) src G xs [] S) (fun d S' => (∃ ds, d = .lst ds ∧ ds.length = 4 ∧ ∀ d ∈ ds, ∃ r : Int, d = .int r ∧ 0 ≤ r ∧ r < 10) ∧ Up p S S') := by
  refine EP_compGo (fun xs acc S' => Up p S S' ∧ acc.length + xs.length = 4 ∧ ∀ d ∈ acc, ∃ r : Int, d = .int r ∧ 0 ≤ r ∧ r < 10) (fun _ _ S _ => hst S) (fun acc S' ⟨u, hl, hd⟩ => ⟨⟨acc, rfl, by simpa using hl, hd⟩, u⟩) ?_ xs [] S (by show 0 + _ ≤ 16777216; omega) ⟨.refl hs, by simpa using hx, fun _ z => by simp at z⟩
  rintro x xs acc S' ⟨u, hl, hd⟩
  refine ⟨_, rfl, ?_⟩
  have h7' : (setV G j x)[7]? = some (some (.loc p)) := by unfold setV; rw [List.getElem?_set_ne hj7]; exact h7
  simp [h7']
  refine (draw_B h hk u.sr (m := 10) (by decide) (by decide)).mono fun d S2 ⟨⟨r, hr, h1, h2⟩, u2⟩ => ?_
  subst hr
  refine ⟨u.trans u2, by simp at hl ⊢; omega, fun d hd' => ?_⟩
  rcases hd' with q | q
  · exact hd d q
  · exact ⟨r, q, h1, h2⟩
theorem house4 {ds : List D} (hl : ds.length = 4) (h : ∀ d ∈ ds, ∃ r : Int, d = .int r ∧ 0 ≤ r ∧ r < 10) : Pln (.tup ds) 16 4 ∧ mHouse (.tup ds) = true := by
  refine ⟨(Pln.tup (m := 16) (n := 3) (by omega) fun d hd => ?_), ?_⟩
  · obtain ⟨r, rfl, _, _⟩ := h d hd
    exact ⟨rfl, rfl, by simp [D.depth]⟩
  · show (decide (ds.length = 4) && ds.all fun d => mFrom d 0 1000000000000000000000000000000) = true
    rw [hl, Bool.and_eq_true]
    refine ⟨rfl, ?_⟩
    rw [List.all_eq_true]
    intro d hd
    obtain ⟨r, rfl, h1, h2⟩ := h d hd
    simp only [mFrom, Bool.and_eq_true, decide_eq_true_eq]
    omega
theorem law_ok (h : H1 T) (h28 : Is T 28 f_law_k01) {k : Nat} (hk : 60 ≤ k) {ns : List Int} : ∃ S', callN T k 28 [.scr ns] [] = .ok (.bl true) S' := by
  have key : EP (callN T k 28 [.scr ns] []) (fun d _ => d = .bl true) := by
    refine EP_callB h28 (by omega) rfl rfl ?_
    have hb : ∃ s ss, b_law_k01 = .cons s ss := ⟨_, _, rfl⟩
    obtain ⟨s, ss, hb⟩ := hb
    show SPX (evSs (callN T (k - 1)) b_law_k01 _ _) _ _ _ _
    rw [hb]
    refine SP_cons.mpr ?_
    have fx := fun {o0 o1 o2 o3 o4 o5 o6 o7 o8 o9 o10 o11 o12 o13 : Option D} {S : Store} => fixed_ok h (k := k - 1) (by omega) hb (o0 := o0) (o1 := o1) (o2 := o2) (o3 := o3) (o4 := o4) (o5 := o5) (o6 := o6) (o7 := o7) (o8 := o8) (o9 := o9) (o10 := o10) (o11 := o11) (o12 := o12) (o13 := o13) (S := S) (N := fun _ _ => D.non = .bl true) (Bk := fun _ _ => False)
    generalize hss : ss = ss' at fx ⊢
    unfold b_law_k01 at hb
    cases hb
    refine SP_for.mpr ?_
    have hmin : (if (10 : Int) < (ns.length : Int) then (10 : Int) else (ns.length : Int)) = ((min ns.length 10 : Nat) : Int) := by split <;> omega
    have hro : rngOk 0 (1 + ((min ns.length 10 : Nat) : Int)) = true := by
      unfold rngOk
      rw [decide_eq_true_eq]
      omega
    simp only [EP_rng, EP_bin, EP_int, EP_cb, EP_esc, EP_var, EP_esn, startE_eq]
    simp [-SP_cons, hmin, hro]
    refine SP_forGo (It0 ns) (fun _ _ _ _ => rfl) ?_ ?_ _ _ _ ⟨_, _, _, _, _, _, _, _, _, _, _, _, _, rfl, fun x hx => ?_⟩
    · rintro G S ⟨o1, o2, o3, o4, o5, o6, o7, o8, o9, o10, o11, o12, o13, rfl, _⟩
      exact SPX.mono fx (fun _ _ z => (by cases z)) (fun _ _ z => z) (fun _ _ z => z)
    · rintro x xs G S ⟨o1, o2, o3, o4, o5, o6, o7, o8, o9, o10, o11, o12, o13, rfl, hxs⟩
      obtain ⟨i, rfl, hi⟩ := hxs x (by simp)
      refine ⟨_, rfl, SP_cons.mpr (SP_set.mpr ?_)⟩
      simp [-SP_cons, setV]
      obtain ⟨j, hj⟩ : ∃ j, k - 1 = j + 1 := ⟨k - 2, by omega⟩
      have so := source_ok h.g.toHSrc (k := j) (ns := ns) (S := S) hi
      rw [← hj] at so
      refine so.mono fun d S1 ⟨hd, _, _, hs1⟩ => ?_
      subst hd
      refine SP_cons.mpr (SP_par.mpr ?_)
      simp [-SP_cons]
      refine (notice_ok h.g (k := k - 1) (m := 4) (by omega) (by omega) (by omega) hs1).mono fun d S2 ⟨⟨n, hd, n1, n2, n3⟩, u2⟩ => ?_
      subst hd
      refine (formula_ok h.g.toHSrc h.h19 4 (k - 1) S2 (by omega) u2.sr (by omega)).mono fun d S3 ⟨⟨f, hd, f1⟩, u3⟩ => ?_
      subst hd
      simp [-SP_cons, setVs, setV]
      refine SP_cons.mpr (SP_set.mpr ?_)
      have hr4 : rngOk 0 4 = true := by decide
      simp [-SP_cons, hr4, wipeE]
      refine (draws4 h.g.toHSrc (k := k - 1) (p := S.length) (by omega) (fun _ => rfl) (j := 13) (by simp) (by simp) (by omega) (by simp [rngD]) u3.sr).mono fun d S4 ⟨⟨hs, hd, hl, hh⟩, u4⟩ => ?_
      subst hd
      obtain ⟨p1, p2, p3⟩ := n.plain n1 n2 n3
      obtain ⟨q1, q2, q3, q4⟩ := f.plain
      obtain ⟨r1, r2⟩ := house4 hl hh
      have pn : Pln n.d 16 4 := ⟨p1, p2, p3⟩
      have pf : Pln f.d 16 4 := ⟨q1, fit_le (by omega) _ q2, by omega⟩
      simp [-SP_cons, setV]
      refine SP_cons.mpr (SP_ife.mpr ?_)
      have c1 := notice_B (S := S4) (k := k - 1) h.n (by omega) p1 (pn.line (by omega))
      have c2 := formula_B (S := S4) (k := k - 1) h.n (by omega) q1 (pf.line (by omega))
      have c3 := house_B (S := S4) (k := k - 1) h.n (by omega) r1.ok (r1.line (by omega))
      rw [n.taken n1 n2 n3] at c1
      rw [q4 10 (by omega)] at c2
      rw [r2] at c3
      simp [-Bool.exists_bool, -SP_cons, c1, c2, c3]
      refine SP_cons.mpr (SP.to (turns_ok h (k := k - 1) (p := S.length) (by omega) (n := n.d) (f := f.d) (hh := .tup hs) ⟨_, _, _, _, _, _, _, _, rfl, u4.sr, ?_⟩) ?_ (fun _ _ z => False.elim z) (fun _ _ z => False.elim z))
      · intro x hx
        simp only [List.mem_cons, List.not_mem_nil, or_false] at hx
        rcases hx with rfl | rfl | rfl
        · exact pn
        · exact pf
        · exact r1
      · rintro G2 S5 ⟨a2, a3, a4, a5, a6, a9, a12, a13, rfl, hs5, _⟩
        obtain ⟨nds, hnd⟩ : ∃ ds, n.d = .tup ds := ⟨_, rfl⟩
        obtain ⟨fds, hfd⟩ := f.tup
        rw [hnd] at pn ⊢
        rw [hfd] at pf ⊢
        have t1 := told_B h (k := k - 1) (S := S5) (by omega) pn.lst.1 (fit_le (by show 16 ≤ 16777216; omega) _ pn.lst.2)
        have t2 := told_B h (k := k - 1) (S := S5) (by omega) pf.lst.1 (fit_le (by show 16 ≤ 16777216; omega) _ pf.lst.2)
        simp [-Bool.exists_bool, t1, t2]
        exact ⟨_, _, _, _, _, _, _, _, _, _, _, _, _, rfl, fun y hy => hxs y (by simp [hy])⟩
    · obtain ⟨i, e, hi⟩ := rng_mem hx
      exact ⟨i, e, by omega⟩
  obtain ⟨d, S', e, rfl⟩ := EP.ok key
  exact ⟨S', e⟩
end
end NW
end
section
set_option maxHeartbeats 0
namespace K01
open PySem NW
theorem h1 : H1 pg.T.fn where
  g := ⟨⟨is_13, is_14, is_15⟩, is_17, is_18⟩
  l := ⟨is_16, is_20, is_21, is_22, is_23, is_24, is_25⟩
  n := ⟨⟨is_0, is_1, is_2, is_3, is_4, is_9, is_10, is_11, is_12⟩, ⟨is_5, is_6⟩, is_7, is_8⟩
  h19 := is_19
  h26 := is_26
  h27 := is_27
end K01
open PySem PySem.W PyProof.Rows
theorem PySem.Challenge.cw_noticeways_k01_notices_and_houses_recogn_holds : PySem.Challenge.rw_noticeways_k01_notices_and_houses_recogn.Holds := by
  exact K01.head fun ns _ _ => NW.law_ok K01.h1 K01.is_28 (by decide)
end
